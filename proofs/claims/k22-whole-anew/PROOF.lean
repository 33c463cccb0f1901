import PyProof.Rows.All
import Wide.All
import OpenK.AllK
import Wide.FinOn
import HandS.ForMost
import PyProof.LongRange
import HandS.SetFor
import HandS.Strs
import KE.KLam
import KE.KxIndex
import KE.KNestM
import HandS.Lambda
import HandS.Nested
import HandS.EndTab
import HandS.HotCalls
import PyProof.ReprLen
import HandS.ForExc
import HandS.IsInst
import HandS.Style
import HandS.Wide
import HandS.Evl
import HandS.Conv
import HandS.ExcIs
import KE.DatumOrd
import PyProof.ReprRoads
import PyProof.Rows.RegStrFacts
import PySem.Challenge.RW_brokenbase_k22_whole_anew
set_option Elab.async false
set_option linter.all false
set_option maxRecDepth 100000
set_option maxHeartbeats 4000000
set_option synthInstance.checkSynthOrder false
set_option synthInstance.maxHeartbeats 400000
set_option synthInstance.maxSize 1000
set_option pp.maxSteps 600
set_option exponentiation.threshold 1000000
namespace Bb
open PySem PySem.Spec L2

/-! ### what stands where, found by instances -/
class SM (H : Hp) (G : outParam Hp) : Prop where s : ∀ b o, G b = some o → H b = some o
class SX (H G : Hp) : Prop where s : ∀ b o, G b = some o → H b = some o
class OB (H : Hp) (p : Addr) (o : outParam HO) : Prop where h : H p = some o
class FR0 (H : Hp) (p : Addr) : Prop where h : H p = none
class NE (q p : Addr) : Prop where h : q ≠ p
/-- all but p stands as before -/
class MU (H : Hp) (G : outParam Hp) (p : outParam Addr) : Prop where s : ∀ b o, b ≠ p → G b = some o → H b = some o
class IR (K : PySem.W.Frag) (H : Hp) (a : Addr) (ns : outParam (List Int)) : Prop where h : SqL K H a (ns.map V.int)
theorem free_back {H G : Hp} {p : Addr} (e : SX H G) (h : H p = none) : G p = none := by
  cases q : G p with
  | none => rfl
  | some o => rw [e.s p o q] at h; cases h
instance SX.refl (H : Hp) : SX H H := ⟨fun _ _ h => h⟩
instance (priority := 200) SX.step {H M G : Hp} [a : SM H M] [b : SX M G] : SX H G := ⟨fun c o h => a.s c o (b.s c o h)⟩
instance (priority := 100) SM.mut {H G M : Hp} {p : Addr} [a : MU H G p] [f : FR0 M p] [b : SX G M] : SM H M := ⟨fun c o h => a.s c o (fun e => by subst e; rw [f.h] at h; cases h) (b.s c o h)⟩
theorem OB.mono' {H G : Hp} {q : Addr} {u : HO} (a : SX H G) (h : OB G q u) : OB H q u := ⟨a.s q u h.h⟩
instance (priority := 200) OB.mono {H G : Hp} {q : Addr} {u : HO} [a : SM H G] [b : OB G q u] : OB H q u := ⟨a.s q u b.h⟩
instance (priority := 100) OB.ne {H G : Hp} {p q : Addr} {u : HO} [a : MU H G p] [n : NE q p] [b : OB G q u] : OB H q u := ⟨a.s q u n.h b.h⟩
instance (priority := 200) IR.mono {K : PySem.W.Frag} {H G : Hp} {q : Addr} {u : List Int} [a : SM H G] [b : IR K G q u] : IR K H q u := ⟨Same.seq a.s b.h⟩
instance NE.a {M : Hp} {q p : Addr} {o : HO} [a : FR0 M q] [b : OB M p o] : NE q p := ⟨fun e => by have := b.h; rw [← e, a.h] at this; cases this⟩
instance NE.b {M : Hp} {q p : Addr} {o : HO} [a : FR0 M p] [b : OB M q o] : NE q p := ⟨fun e => by have := b.h; rw [e, a.h] at this; cases this⟩
theorem smx {H G : Hp} [a : SX H G] : SM H G := ⟨a.s⟩
theorem frx {M H : Hp} {p : Addr} [a : FR0 M p] [b : SX M H] : FR0 H p := ⟨free_back b a.h⟩
class FR (H : Hp) (p : Addr) : Prop where h : H p = none
instance FR.of {M H : Hp} {p : Addr} [a : FR0 M p] [b : SX M H] : FR H p := ⟨free_back b a.h⟩
theorem OB.sq {K : PySem.W.Frag} {H : Hp} {p : Addr} {xs : List V} (h : OB H p (.lst xs)) : SqL K H p xs := SqL.of h.h
theorem OB.st {K : PySem.W.Frag} {H : Hp} {p : Addr} {xs : List V} (h : OB H p (.tup xs)) : SqT K H p xs := SqT.of h.h
theorem OB.new {H : Hp} {p : Addr} {o : HO} : OB (upd H p o) p o := ⟨upd_same⟩
theorem SM.new {H : Hp} {p : Addr} {o : HO} (h : H p = none) : SM (upd H p o) H := ⟨fun b u e => by rw [upd_ne (ne_of_none e h)]; exact e⟩
theorem MU.new {H : Hp} {p : Addr} {o : HO} : MU (upd H p o) H p := ⟨fun b u n e => by rw [upd_ne n]; exact e⟩

/-! ### readings, step by step -/
section
variable {K : PySem.W.Frag} {σ : L2.St} {H : Hp} {Q : VK} {D : Ends} {t u : TS} {ta tb tc te : TE} {x y v : V} {i : Nat} {r r' : R2}
/-- continuations by name -/
def kBl (Q : Bool → Hp → Prop) : VK := fun x H => ∃ k, x = .bl k ∧ Q k H
def kNew (Q : VK) (o : HO) (H : Hp) : Prop := ∀ p H', SM H' H → FR0 H p → OB H' p o → Q (.ref p) H'
theorem kNew.of {o : HO} (h : kNew Q o H) : ∀ p, H p = none → Q (.ref p) (upd H p o) := fun p hp => h p _ (SM.new hp) ⟨hp⟩ OB.new
theorem kret {o : HO} {H' : Hp} {p : Addr} (q : kNew Q o H) [a : SX H' H] [b : FR H p] [c : OB H' p o] : Q (.ref p) H' := q p H' smx ⟨b.h⟩ c
theorem rd_seq (h : t { D with nx := u D } σ H) : tSeq t u D σ H := h
theorem rd_seqM {a : L2.St → Hp → Prop} {b : VK} {c d : L2.St → Hp → Prop} (h : t (Ends.mk (u (Ends.mk a b c d)) b c d) σ H) : tSeq t u (Ends.mk a b c d) σ H := h
theorem rd_next (h : D.nx σ H) : tNext D σ H := h
theorem rd_nx {a : L2.St → Hp → Prop} {b : VK} {c d : L2.St → Hp → Prop} (h : a σ H) : (Ends.mk a b c d).nx σ H := h
theorem rd_rt {a : L2.St → Hp → Prop} {b : VK} {c d : L2.St → Hp → Prop} (h : b v H) : (Ends.mk a b c d).rt v H := h
theorem rd_bk {a : L2.St → Hp → Prop} {b : VK} {c d : L2.St → Hp → Prop} (h : c σ H) : (Ends.mk a b c d).bk σ H := h
theorem rd_ct {a : L2.St → Hp → Prop} {b : VK} {c d : L2.St → Hp → Prop} (h : d σ H) : (Ends.mk a b c d).ct σ H := h
theorem rd_asg {g : TG} (h : te σ H fun x H1 => g x σ H1 D.nx) : tAsg te g D σ H := h
theorem rd_gname {N : L2.St → Hp → Prop} (h : N (σ.set i (some v)) H) : gName i v σ H N := h
theorem rd_drop (h : te σ H fun _ H1 => D.nx σ H1) : tDrop te D σ H := h
theorem rd_ret (h : te σ H D.rt) : tRet te D σ H := h
theorem rd_retn (h : D.rt .non H) : tRetN D σ H := h
theorem rd_brk (h : D.bk σ H) : tBreak D σ H := h
theorem rd_cont (h : D.ct σ H) : tCont D σ H := h
theorem rd_ifs {c : TT} (h : c σ H fun b H1 => if b = true then t D σ H1 else u D σ H1) : tIfS c t u D σ H := h
theorem rd_if {c : TT} (h : c σ H fun b H1 => if b = true then ta σ H1 Q else tb σ H1 Q) : tIf c ta tb σ H Q := h
theorem rd_var (h : σ[i]? = some (some v)) (q : Q v H) : tVar i σ H Q := ⟨v, h, q⟩
theorem rd_c (q : Q v H) : tC v σ H Q := q
theorem rd_op (h : ta σ H fun x H1 => tb σ H1 fun y H2 => r x y H2 Q) : tOp r ta tb σ H Q := h
theorem rd_un {r : V → Hp → VK → Prop} (h : ta σ H fun x H1 => r x H1 Q) : tUn r ta σ H Q := h
theorem rd_I0 {g : Int → Int → V} {a b : Int} (q : Q (g a b) H) : rI0 g (.int a) (.int b) H Q := ⟨a, b, rfl, rfl, q⟩
theorem rd_U {g : Int → V} {a : Int} (q : Q (g a) H) : rU g (.int a) H Q := ⟨a, rfl, q⟩
theorem rd_I {C : Int → Int → Prop} {g : Int → Int → V} {a b : Int} (c : C a b) (q : Q (g a b) H) : rI C g (.int a) (.int b) H Q := ⟨a, b, rfl, rfl, c, q⟩
theorem rd_eqI {a b : Int} (q : Q (.bl (decide (a = b))) H) : rEq (.int a) (.int b) H Q := by
  refine ⟨rfl, ?_⟩
  have e : decide (V.int a = V.int b) = decide (a = b) := by simp
  rw [e]; exact q
theorem rd_neI {a b : Int} (q : Q (.bl (decide (a ≠ b))) H) : rNe (.int a) (.int b) H Q := by
  refine ⟨rfl, ?_⟩
  have e : (!decide (V.int a = V.int b)) = decide (a ≠ b) := by simp
  rw [e]; exact q
theorem rd_eqB {a b : Bool} (q : Q (.bl (decide (a = b))) H) : rEq (.bl a) (.bl b) H Q := by
  refine ⟨rfl, ?_⟩
  have e : decide (V.bl a = V.bl b) = decide (a = b) := by simp
  rw [e]; exact q
theorem rd_neB {a b : Bool} (q : Q (.bl (decide (a ≠ b))) H) : rNe (.bl a) (.bl b) H Q := by
  refine ⟨rfl, ?_⟩
  have e : (!decide (V.bl a = V.bl b)) = decide (a ≠ b) := by simp
  rw [e]; exact q
theorem rd_cb {f : List V → Hp → VK → Prop} {t : TA} (h : t σ H fun vs H1 => f vs H1 Q) : tCB f t σ H Q := h
theorem rd_nil {R : List V → Hp → Prop} (q : R [] H) : tNil σ H R := q
theorem rd_cons {tr : TA} {R : List V → Hp → Prop} (h : ta σ H fun x H1 => tr σ H1 fun xs H2 => R (x :: xs) H2) : tCons ta tr σ H R := h
theorem small_of {n : Nat} (h : n ≤ 100000) : n ≤ sizeLine := Nat.le_trans h (by decide)
theorem slt_of {n : Nat} (h : n < 100000) : n < sizeLine := Nat.lt_of_lt_of_le h (by decide)
def kTup (Q : VK) (xs : List V) (H : Hp) : Prop := xs.length ≤ 100000 ∧ kNew Q (.tup xs) H
def kLst (Q : VK) (xs : List V) (H : Hp) : Prop := xs.length ≤ 100000 ∧ kNew Q (.lst xs) H
end
/-! ### rules whose readings name what they ask -/
section
variable {X : Cx} {e : Expr} {es : List Expr} {te : TE} {t : TA} {pos : Pos}
def upE (t : TE) : TE := fun σ H Q => ∃ R : VK, t σ H R ∧ ∀ v H', R v H' → Q v H'
def upA (t : TA) : TA := fun σ H Q => ∃ R : List V → Hp → Prop, t σ H R ∧ ∀ v H', R v H' → Q v H'
theorem pe_up (h : PE X e te) : PE X e (upE te) := ⟨fun pins s σ H Q I ⟨R, a, m⟩ => thn (h.run pins s σ H R I a) fun v s' ⟨x, H', I', r, q⟩ => ⟨x, H', I', r, m _ _ q⟩⟩
theorem pa_up (h : PA X es t) : PA X es (upA t) := ⟨fun pos pins s σ H Q I ⟨R, a, m⟩ => thn (h.run pos pins s σ H R I a) fun v s' ⟨x, H', I', r, q⟩ => ⟨x, H', I', r, m _ _ q⟩⟩
theorem pe_weak {te' : TE} (h : PE X e te) (w : ∀ σ H Q, te' σ H Q → te σ H Q) : PE X e te' := ⟨fun pins s σ H Q I a => h.run pins s σ H Q I (w _ _ _ a)⟩
theorem op_weak {f : Value → Value → Sem Value} {r r' : R2} (h : OpR X f r) (w : ∀ x y H Q, r' x y H Q → r x y H Q) : OpR X f r' := fun pins s σ H x y v u Q I rx ry a => h pins s σ H x y v u Q I rx ry (w _ _ _ _ a)
theorem cr_weak {f : Value} {r r' : List V → Hp → VK → Prop} (h : CallR X f r) (w : ∀ x H Q, r' x H Q → r x H Q) : CallR X f r' := fun pins s σ H x v Q I rx a => h pins s σ H x v Q I rx (w _ _ _ a)
theorem mt_weak {id : String} {r r' : V → List V → Hp → VK → Prop} (h : MtR X id r) (w : ∀ x y H Q, r' x y H Q → r x y H Q) : MtR X id r' := fun pins s σ H x xs v us Q I rx ry a => h pins s σ H x xs v us Q I rx ry (w _ _ _ _ a)
def tTupB (t : TA) : TE := fun σ H Q => t σ H (kTup Q)
def tLstB (t : TA) : TE := fun σ H Q => t σ H (kLst Q)
theorem pe_tupB {k} (h : PA X es t) : PE X (.Tuple es k pos) (tTupB t) := pe_weak (pe_tup (pa_up h)) fun σ H Q a => ⟨kTup Q, a, fun xs H ⟨a, b⟩ => ⟨small_of a, b.of⟩⟩
theorem pe_lstB (h : PA X es t) : PE X (.List es pos) (tLstB t) := pe_weak (pe_lst (pa_up h)) fun σ H Q a => ⟨kLst Q, a, fun xs H ⟨a, b⟩ => ⟨small_of a, b.of⟩⟩
def kRev (Q : VK) : VK := fun x H => ∃ a xs, x = .ref a ∧ OB H a (.lst xs) ∧ kNew Q (.lst xs.reverse) H
def tRevB (te : TE) : TE := fun σ H Q => te σ H (kRev Q)
theorem pe_revB {k : Nat} {p1 p2 p3 : Pos} (h : PE X e te) : PE X (.Subscript e (.Slice none none (some (.UnaryOp .USub (.Constant (.int 1) k p1) p2)) p3) pos) (tRevB te) :=
  pe_weak (pe_revL (pe_up h)) fun σ H Q a => ⟨kRev Q, a, fun v H' ⟨a, xs, e, o, k⟩ => ⟨a, xs, e, o.sq, k.of⟩⟩
def rSlB : V → Option Int → Option Int → Hp → VK → Prop := fun x lo hi H Q => ∃ a xs, x = .ref a ∧ OB H a (.lst xs) ∧ kNew Q (.lst (cutV xs lo hi)) H
theorem sl_listB : SlR X rSlB := fun pins s σ H x v vl vu lo hi sl Q I rx hs pl pu ⟨a, xs, e, o, k⟩ => sl_list pins s σ H x v vl vu lo hi sl Q I rx hs pl pu ⟨a, xs, e, o.sq, k.of⟩
def rIxLB : R2 := fun x y H Q => ∃ p xs i v, x = .ref p ∧ y = .int i ∧ OB H p (.lst xs) ∧ atI xs i = some v ∧ Q v H
def rIxTB : R2 := fun x y H Q => ∃ p xs i v, x = .ref p ∧ y = .int i ∧ OB H p (.tup xs) ∧ atI xs i = some v ∧ Q v H
def rIxRB (K : PySem.W.Frag) : R2 := fun x y H Q => ∃ p ns i v, x = .ref p ∧ y = .int i ∧ IR K H p ns ∧ atI (ns.map V.int) i = some v ∧ Q v H
theorem ix_listB : IxR X rIxLB := fun v0 s0 pins s σ H x y v u Q I rx ry ⟨p, xs, i, z, a, b, o, c, q⟩ => ix_list v0 s0 pins s σ H x y v u Q I rx ry ⟨p, xs, i, z, a, b, o.sq, c, q⟩
theorem ix_tupB : IxR X rIxTB := fun v0 s0 pins s σ H x y v u Q I rx ry ⟨p, xs, i, z, a, b, o, c, q⟩ => ix_tup v0 s0 pins s σ H x y v u Q I rx ry ⟨p, xs, i, z, a, b, o.st, c, q⟩
theorem ix_rdB {K : PySem.W.Frag} (hK : X.K = K) : IxR X (rIxRB K) := by
  subst hK
  exact fun v0 s0 pins s σ H x y v u Q I rx ry ⟨p, ns, i, z, a, b, o, c, q⟩ => ix_list v0 s0 pins s σ H x y v u Q I rx ry ⟨p, _, i, z, a, b, o.h, c, q⟩
def rCatB : R2 := fun x y H Q => ∃ l b xs zs, x = .ref l ∧ y = .ref b ∧ OB H l (.lst xs) ∧ OB H b (.lst zs) ∧ xs.length + zs.length ≤ 100000 ∧ kNew Q (.lst (xs ++ zs)) H
theorem op_catB : OpR X (binaryOp .Add) rCatB := op_weak op_cat fun x y H Q ⟨l, b, xs, zs, a, c, o, p, n, k⟩ => ⟨l, b, xs, zs, a, c, o.h, p.h, small_of n, k.of⟩
def rRepB : R2 := fun x y H Q => ∃ l k xs, x = .ref l ∧ y = .int k ∧ OB H l (.lst xs) ∧ -(2 ^ 63) ≤ k ∧ k < 2 ^ 63 ∧ xs.length * k.toNat ≤ 100000 ∧ kNew Q (.lst (List.replicate k.toNat xs).flatten) H
def kMut (Q : VK) (w : V) (l : Addr) (o : HO) (H : Hp) : Prop := ∀ H', MU H' H l → OB H' l o → Q w H'
def rAppendB : V → List V → Hp → VK → Prop := fun x vs H Q => ∃ l xs y, x = .ref l ∧ vs = [y] ∧ OB H l (.lst xs) ∧ xs.length < 100000 ∧ kMut Q .non l (.lst (xs ++ [y])) H
theorem mt_appendB : MtR X "list.append" rAppendB := mt_weak mt_append fun x vs H Q ⟨l, xs, y, a, b, o, n, k⟩ => ⟨l, xs, y, a, b, o.h, slt_of n, k _ MU.new OB.new⟩
def rPopB : V → List V → Hp → VK → Prop := fun x vs H Q => ∃ l xs y, x = .ref l ∧ vs = [] ∧ OB H l (.lst xs) ∧ xs[xs.length - 1]? = some y ∧ kMut Q y l (.lst xs.dropLast) H
theorem mt_popB : MtR X "list.pop" rPopB := mt_weak mt_pop fun x vs H Q ⟨l, xs, y, a, b, o, n, k⟩ => ⟨l, xs, y, a, b, o.h, n, k _ MU.new OB.new⟩
def rReverseB : V → List V → Hp → VK → Prop := fun x vs H Q => ∃ l xs, x = .ref l ∧ vs = [] ∧ OB H l (.lst xs) ∧ kMut Q .non l (.lst xs.reverse) H
theorem mt_reverseB : MtR X "list.reverse" rReverseB := mt_weak mt_reverse fun x vs H Q ⟨l, xs, a, b, o, k⟩ => ⟨l, xs, a, b, o.h, k _ MU.new OB.new⟩
def rClearB : V → List V → Hp → VK → Prop := fun x vs H Q => ∃ l xs, x = .ref l ∧ vs = [] ∧ OB H l (.lst xs) ∧ kMut Q .non l (.lst []) H
theorem mt_clearB : MtR X "list.clear" rClearB := mt_weak mt_clear fun x vs H Q ⟨l, xs, a, b, o, k⟩ => ⟨l, xs, a, b, o.h, k _ MU.new OB.new⟩
def rExtendB : V → List V → Hp → VK → Prop := fun x vs H Q => ∃ l b xs zs, x = .ref l ∧ vs = [.ref b] ∧ OB H l (.lst xs) ∧ OB H b (.lst zs) ∧ xs.length + zs.length ≤ 100000 ∧ kMut Q .non l (.lst (xs ++ zs)) H
theorem mt_extendB : MtR X "list.extend" rExtendB := mt_weak mt_extend fun x vs H Q ⟨l, b, xs, zs, a, c, o, p, n, k⟩ => ⟨l, b, xs, zs, a, c, o.h, p.h, small_of n, k _ MU.new OB.new⟩
/-- calls of built-ins -/
def rLenB : List V → Hp → VK → Prop := fun vs H Q => ∃ p xs, vs = [.ref p] ∧ OB H p (.lst xs) ∧ Q (.int (xs.length : Int)) H
def rLenTB : List V → Hp → VK → Prop := fun vs H Q => ∃ p xs, vs = [.ref p] ∧ OB H p (.tup xs) ∧ Q (.int (xs.length : Int)) H
def rLenRB (K : PySem.W.Frag) : List V → Hp → VK → Prop := fun vs H Q => ∃ p ns, vs = [.ref p] ∧ IR K H p ns ∧ Q (.int (ns.length : Int)) H
theorem cr_lenB : CallR X (.builtin "len") rLenB := cr_weak call_len_seq fun vs H Q ⟨p, xs, e, o, q⟩ => ⟨p, xs, e, .inl o.sq, q⟩
theorem cr_lenTB : CallR X (.builtin "len") rLenTB := cr_weak call_len_seq fun vs H Q ⟨p, xs, e, o, q⟩ => ⟨p, xs, e, .inr o.st, q⟩
theorem cr_lenRB {K : PySem.W.Frag} (hK : X.K = K) : CallR X (.builtin "len") (rLenRB K) := by
  subst hK
  exact cr_weak call_len_seq fun vs H Q ⟨p, ns, e, o, q⟩ => ⟨p, _, e, .inl o.h, by rw [List.length_map]; exact q⟩
def rAllB : List V → Hp → VK → Prop := fun vs H Q => ∃ (a : Addr) (bs : List Bool), vs = [V.ref a] ∧ OB H a (.lst (bs.map V.bl)) ∧ Q (.bl (bs.all id)) H
def rAnyB : List V → Hp → VK → Prop := fun vs H Q => ∃ (a : Addr) (bs : List Bool), vs = [V.ref a] ∧ OB H a (.lst (bs.map V.bl)) ∧ Q (.bl (bs.any id)) H
theorem cr_allB (hc : X.calm = true) : CallR X (.builtin "all") rAllB := cr_weak (cr_all hc) fun vs H Q ⟨p, xs, e, o, q⟩ => ⟨p, xs, e, o.sq, q⟩
theorem cr_anyB (hc : X.calm = true) : CallR X (.builtin "any") rAnyB := cr_weak (cr_any hc) fun vs H Q ⟨p, xs, e, o, q⟩ => ⟨p, xs, e, o.sq, q⟩
def rSumB : List V → Hp → VK → Prop := fun vs H Q => ∃ (a : Addr) (ns : List Int), vs = [V.ref a] ∧ OB H a (.lst (ns.map V.int)) ∧ Q (.int ns.sum) H
theorem cr_sumB (hc : X.calm = true) : CallR X (.builtin "sum") rSumB := cr_weak (cr_sum hc) fun vs H Q ⟨p, xs, e, o, q⟩ => ⟨p, xs, e, o.sq, q⟩
def rMax2B : List V → Hp → VK → Prop := fun vs H Q => ∃ i j, vs = [.int i, .int j] ∧ Q (.int (max i j)) H
def rMin2B : List V → Hp → VK → Prop := fun vs H Q => ∃ i j, vs = [.int i, .int j] ∧ Q (.int (min i j)) H
def rAbsB : List V → Hp → VK → Prop := fun vs H Q => ∃ i : Int, vs = [.int i] ∧ Q (.int (i.natAbs : Int)) H
theorem cr_max2B (hc : X.calm = true) : CallR X (.builtin "max") rMax2B := cr_weak (call_max2 hc) fun vs H Q ⟨i, j, e, q⟩ => ⟨i, j, e, by
  have z : (if j > i then j else i) = max i j := by split <;> omega
  rw [z]; exact q⟩
theorem cr_min2B (hc : X.calm = true) : CallR X (.builtin "min") rMin2B := cr_weak (call_min2 hc) fun vs H Q ⟨i, j, e, q⟩ => ⟨i, j, e, by
  have z : (if j < i then j else i) = min i j := by split <;> omega
  rw [z]; exact q⟩
theorem cr_absB : CallR X (.builtin "abs") rAbsB := cr_weak call_abs fun vs H Q ⟨i, e, q⟩ => ⟨i, e, by
  have z : (if i < 0 then -i else i) = (i.natAbs : Int) := by split <;> omega
  rw [z]; exact q⟩
/-- isinstance of a class of the written part or a built-in one: the answer b by the kind's own table -/
class TY (K : PySem.W.Frag) (H : Hp) (x : V) (t : outParam Value) : Prop where h : TyX K H x t
instance {K H i} : TY K H (.int i) (.type "int") := ⟨.base (.int i)⟩
instance {K H i} : TY K H (.bl i) (.type "bool") := ⟨.base (.bl i)⟩
instance {K H i} : TY K H (.str i) (.type "str") := ⟨.base (.str i)⟩
instance {K H} : TY K H .non (.type "NoneType") := ⟨.base .non⟩
instance {K H a xs} [o : OB H a (.lst xs)] : TY K H (.ref a) (.type "list") := ⟨.base (.lst o.h)⟩
instance {K H a xs} [o : OB H a (.tup xs)] : TY K H (.ref a) (.type "tuple") := ⟨.base (.tup o.h)⟩
def rIsiB (K : PySem.W.Frag) : List V → Hp → VK → Prop := fun xs H Q => ∃ (x c : V) (t u : Value) (b : Bool), xs = [x, c] ∧ ClsV c u ∧ TY K H x t ∧ PySem.W.kitOne K t u = some b ∧ Q (.bl b) H
theorem cr_isiB {K : PySem.W.Frag} (hK : X.K = K) : CallR X (.builtin "isinstance") (rIsiB K) := by
  subst hK
  exact cr_weak call_isi fun vs H Q ⟨x, c, t, u, b, e, k, y, z, q⟩ => ⟨x, c, t, u, b, e, k, y.h, z, q⟩
/-- == of data -/
class DP (K : PySem.W.Frag) (H : Hp) (v : V) (d : outParam PyData) : Prop where
  h : Dp K H v d
  s : SeqAt.shaped d = true
def rEqB (K : PySem.W.Frag) : R2 := fun x y H Q => ∃ d e, DP K H x d ∧ DP K H y e ∧ Q (.bl (PyData.eqv d e)) H
def rNeB (K : PySem.W.Frag) : R2 := fun x y H Q => ∃ d e, DP K H x d ∧ DP K H y e ∧ Q (.bl (!PyData.eqv d e)) H
theorem op_eqB {K : PySem.W.Frag} (hK : X.K = K) (hu : X.A.units + 64 < cLine) : OpR X (compareOp .Eq) (rEqB K) := by
  subst hK
  exact op_weak (op_eqD hu) fun x y H Q ⟨d, e, a, b, q⟩ => ⟨d, e, a.h, b.h, a.s, b.s, q⟩
theorem op_neB {K : PySem.W.Frag} (hK : X.K = K) (hu : X.A.units + 64 < cLine) : OpR X (compareOp .NotEq) (rNeB K) := by
  subst hK
  exact op_weak (op_neD hu) fun x y H Q ⟨d, e, a, b, q⟩ => ⟨d, e, a.h, b.h, a.s, b.s, q⟩
theorem pi_listK {K : PySem.W.Frag} (hK : X.K = K) {tg l : Expr} {tl : TE} (h : PE X l tl) : PI X tg l (iList K tl) := by
  subst hK
  exact pi_list h
theorem pi_tupK {K : PySem.W.Frag} (hK : X.K = K) {tg l : Expr} {tl : TE} (h : PE X l tl) : PI X tg l (iTup K tl) := by
  subst hK
  exact pi_tup h
/-- a, b = e -/
def gTupB (n : Nat) (t : TGs) : TG := fun v σ H Q => ∃ a xs, v = .ref a ∧ OB H a (.tup xs) ∧ xs.length = n ∧ t xs σ H Q
theorem pg_tupB {es : List Expr} {k} {t : TGs} {n : Nat} (hc : X.calm = true) (h : PGs X es t) (hn : (assignEach es X.env).length = n := by rfl) (hst : (assignEach es X.env).findIdx? (·.1) = none := by rfl) : PG X (.Tuple es k pos) (gTupB n t) := by
  have g := pg_tup (pos := pos) (k := k) hc h hn hst
  exact ⟨fun pins s σ H v u Q I r ⟨a, xs, e, o, l, q⟩ => g.run pins s σ H v u Q I r ⟨a, xs, e, o.st, l, q⟩⟩
end

/-! ### and how they are read -/
section
variable {K : PySem.W.Frag} {σ : L2.St} {H : Hp} {Q : VK} {D : Ends} {t u : TS} {ta tb tc te : TE} {x y v : V} {i : Nat} {r r' : R2} {p q : Addr} {xs ys : List V}
theorem rd_tupB {t : TA} (h : t σ H (kTup Q)) : tTupB t σ H Q := h
theorem rd_lstB {t : TA} (h : t σ H (kLst Q)) : tLstB t σ H Q := h
theorem rd_kTup (h : kNew Q (.tup xs) H) (l : xs.length ≤ 100000 := by simp) : kTup Q xs H := ⟨l, h⟩
theorem rd_kLst (h : kNew Q (.lst xs) H) (l : xs.length ≤ 100000 := by simp) : kLst Q xs H := ⟨l, h⟩
theorem rd_rev (h : te σ H (kRev Q)) : tRevB te σ H Q := h
theorem rd_kRev [o : OB H p (.lst xs)] (h : kNew Q (.lst xs.reverse) H) : kRev Q (.ref p) H := ⟨p, xs, rfl, o, h⟩
theorem rd_test (h : te σ H (kBl R)) : tTest te σ H R := h
theorem rd_tB (h : te σ H (kBl R)) : tB te σ H R := h
theorem rd_kBl {b : Bool} {R : Bool → Hp → Prop} (h : R b H) : kBl R (.bl b) H := ⟨b, rfl, h⟩
theorem rd_and {c d : TT} {R : Bool → Hp → Prop} (h : c σ H fun c H1 => if c = true then d σ H1 R else R false H1) : tAnd c d σ H R := h
theorem rd_or {c d : TT} {R : Bool → Hp → Prop} (h : c σ H fun c H1 => if c = true then R true H1 else d σ H1 R) : tOr c d σ H R := h
theorem rd_not {c : TT} {R : Bool → Hp → Prop} (h : c σ H fun c H1 => R (!c) H1) : tNot c σ H R := h
def kAnd (tb : TE) (σ : L2.St) (Q : VK) : VK := fun x H => ∃ c, x = .bl c ∧ if c = true then tb σ H Q else Q (.bl false) H
def kOr (tb : TE) (σ : L2.St) (Q : VK) : VK := fun x H => ∃ c, x = .bl c ∧ if c = true then Q (.bl true) H else tb σ H Q
def kNot (Q : VK) : VK := fun x H => ∃ c, x = .bl c ∧ Q (.bl (!c)) H
theorem rd_andV (h : ta σ H (kAnd tb σ Q)) : tAndV ta tb σ H Q := h
theorem rd_orV (h : ta σ H (kOr tb σ Q)) : tOrV ta tb σ H Q := h
theorem rd_notV (h : ta σ H (kNot Q)) : tNotV ta σ H Q := h
theorem rd_kAnd {b : Bool} (h : if b = true then tb σ H Q else Q (.bl false) H) : kAnd tb σ Q (.bl b) H := ⟨b, rfl, h⟩
theorem rd_kOr {b : Bool} (h : if b = true then Q (.bl true) H else tb σ H Q) : kOr tb σ Q (.bl b) H := ⟨b, rfl, h⟩
theorem rd_kNot {b : Bool} (h : Q (.bl (!b)) H) : kNot Q (.bl b) H := ⟨b, rfl, h⟩
theorem rd_isN (h : ta σ H fun x H1 => Q (.bl (decide (x = .non))) H1) : tIsN ta σ H Q := h
def kCh (r' : R2) (tc : TE) (y : V) (σ : L2.St) (Q : VK) : VK := fun z H => ∃ k, z = .bl k ∧ (if k = true then tc σ H fun w' H4 => r' y w' H4 Q else Q (.bl false) H)
theorem rd_chain (h : ta σ H fun x H1 => tb σ H1 fun y H2 => r x y H2 (kCh r' tc y σ Q)) : tChain r r' ta tb tc σ H Q := h
theorem rd_kCh {b : Bool} (h : if b = true then tc σ H fun w' H4 => r' y w' H4 Q else Q (.bl false) H) : kCh r' tc y σ Q (.bl b) H := ⟨b, rfl, h⟩
theorem rd_ixL [o : OB H p (.lst xs)] {z : Int} (h : atI xs z = some v) (q : Q v H) : rIxLB (.ref p) (.int z) H Q := ⟨p, xs, z, v, rfl, rfl, o, h, q⟩
theorem rd_ixT [o : OB H p (.tup xs)] {z : Int} (h : atI xs z = some v) (q : Q v H) : rIxTB (.ref p) (.int z) H Q := ⟨p, xs, z, v, rfl, rfl, o, h, q⟩
theorem rd_ixR {ns : List Int} [o : IR K H p ns] {z : Int} (h : atI (ns.map V.int) z = some v) (q : Q v H) : rIxRB K (.ref p) (.int z) H Q := ⟨p, ns, z, v, rfl, rfl, o, h, q⟩
theorem rd_cat [o : OB H p (.lst xs)] [o' : OB H q (.lst ys)] (l : xs.length + ys.length ≤ 100000) (h : kNew Q (.lst (xs ++ ys)) H) : rCatB (.ref p) (.ref q) H Q := ⟨p, q, xs, ys, rfl, rfl, o, o', l, h⟩
def kBM (K : PySem.W.Frag) (T : String) (r : V → List V → Hp → VK → Prop) (σ : L2.St) (t : TA) (Q : VK) : VK := fun x H1 => tyV K T x H1 ∧ t σ H1 fun xs H2 => r x xs H2 Q
theorem rd_bm {T : String} {f : V → List V → Hp → VK → Prop} {t : TA} (h : te σ H (kBM K T f σ t Q)) : tBM K T f te t σ H Q := h
theorem rd_kBM [o : OB H p (.lst xs)] {f : V → List V → Hp → VK → Prop} {t : TA} (h : t σ H fun xs H2 => f (.ref p) xs H2 Q) : kBM K "list" f σ t Q (.ref p) H := ⟨.inl ⟨rfl, _, o.sq⟩, h⟩
def kBM0 (K : PySem.W.Frag) (T : String) (r : V → List V → Hp → VK → Prop) (Q : VK) : VK := fun x H1 => tyV K T x H1 ∧ r x [] H1 Q
theorem rd_bm0 {T : String} {f : V → List V → Hp → VK → Prop} (h : te σ H (kBM0 K T f Q)) : tBM0 K T f te σ H Q := h
theorem rd_kBM0 [o : OB H p (.lst xs)] {f : V → List V → Hp → VK → Prop} (h : f (.ref p) [] H Q) : kBM0 K "list" f Q (.ref p) H := ⟨.inl ⟨rfl, _, o.sq⟩, h⟩
theorem rd_append [o : OB H p (.lst xs)] (l : xs.length < 100000) (h : kMut Q .non p (.lst (xs ++ [v])) H) : rAppendB (.ref p) [v] H Q := ⟨p, xs, v, rfl, rfl, o, l, h⟩
theorem rd_reverse [o : OB H p (.lst xs)] (h : kMut Q .non p (.lst xs.reverse) H) : rReverseB (.ref p) [] H Q := ⟨p, xs, rfl, rfl, o, h⟩
theorem rd_clear [o : OB H p (.lst xs)] (h : kMut Q .non p (.lst []) H) : rClearB (.ref p) [] H Q := ⟨p, xs, rfl, rfl, o, h⟩
theorem rd_extend [o : OB H p (.lst xs)] [o' : OB H q (.lst ys)] (l : xs.length + ys.length ≤ 100000) (h : kMut Q .non p (.lst (xs ++ ys)) H) : rExtendB (.ref p) [.ref q] H Q := ⟨p, q, xs, ys, rfl, rfl, o, o', l, h⟩
theorem rd_pop [o : OB H p (.lst xs)] (l : xs[xs.length - 1]? = some v) (h : kMut Q v p (.lst xs.dropLast) H) : rPopB (.ref p) [] H Q := ⟨p, xs, v, rfl, rfl, o, l, h⟩
theorem rd_len [o : OB H p (.lst xs)] (q : Q (.int (xs.length : Int)) H) : rLenB [.ref p] H Q := ⟨p, xs, rfl, o, q⟩
theorem rd_lenT [o : OB H p (.tup xs)] (q : Q (.int (xs.length : Int)) H) : rLenTB [.ref p] H Q := ⟨p, xs, rfl, o, q⟩
theorem rd_lenR {ns : List Int} [o : IR K H p ns] (q : Q (.int (ns.length : Int)) H) : rLenRB K [.ref p] H Q := ⟨p, ns, rfl, o, q⟩
theorem rd_all {bs : List Bool} [o : OB H p (.lst (bs.map V.bl))] (q : Q (.bl (bs.all id)) H) : rAllB [.ref p] H Q := ⟨p, bs, rfl, o, q⟩
theorem rd_any {bs : List Bool} [o : OB H p (.lst (bs.map V.bl))] (q : Q (.bl (bs.any id)) H) : rAnyB [.ref p] H Q := ⟨p, bs, rfl, o, q⟩
theorem rd_sum {ns : List Int} [o : OB H p (.lst (ns.map V.int))] (q : Q (.int ns.sum) H) : rSumB [.ref p] H Q := ⟨p, ns, rfl, o, q⟩
class KT (a b : String) (r : outParam Bool) : Prop where e : kitB a b = some r
instance : KT "int" "int" true := ⟨by decide +kernel⟩
instance : KT "int" "bool" false := ⟨by decide +kernel⟩
instance : KT "int" "list" false := ⟨by decide +kernel⟩
instance : KT "int" "tuple" false := ⟨by decide +kernel⟩
instance : KT "bool" "int" true := ⟨by decide +kernel⟩
instance : KT "bool" "bool" true := ⟨by decide +kernel⟩
instance : KT "bool" "list" false := ⟨by decide +kernel⟩
instance : KT "bool" "tuple" false := ⟨by decide +kernel⟩
instance : KT "str" "int" false := ⟨by decide +kernel⟩
instance : KT "str" "bool" false := ⟨by decide +kernel⟩
instance : KT "str" "list" false := ⟨by decide +kernel⟩
instance : KT "str" "tuple" false := ⟨by decide +kernel⟩
instance : KT "NoneType" "int" false := ⟨by decide +kernel⟩
instance : KT "NoneType" "bool" false := ⟨by decide +kernel⟩
instance : KT "NoneType" "list" false := ⟨by decide +kernel⟩
instance : KT "NoneType" "tuple" false := ⟨by decide +kernel⟩
instance : KT "list" "int" false := ⟨by decide +kernel⟩
instance : KT "list" "bool" false := ⟨by decide +kernel⟩
instance : KT "list" "list" true := ⟨by decide +kernel⟩
instance : KT "list" "tuple" false := ⟨by decide +kernel⟩
instance : KT "tuple" "int" false := ⟨by decide +kernel⟩
instance : KT "tuple" "bool" false := ⟨by decide +kernel⟩
instance : KT "tuple" "list" false := ⟨by decide +kernel⟩
instance : KT "tuple" "tuple" true := ⟨by decide +kernel⟩
instance : KT "dict" "int" false := ⟨by decide +kernel⟩
instance : KT "dict" "bool" false := ⟨by decide +kernel⟩
instance : KT "dict" "list" false := ⟨by decide +kernel⟩
instance : KT "dict" "tuple" false := ⟨by decide +kernel⟩
theorem rd_isi {b : Bool} {S T : String} [o : TY K H x (.type S)] [e : KT S T b] (q : Q (.bl b) H) : rIsiB K [x, .ty T] H Q := ⟨x, _, _, _, b, rfl, .ty T, o.h |> fun h => ⟨h⟩, kit_ty e.e, q⟩
theorem rd_eqD {d e : PyData} [a : DP K H x d] [b : DP K H y e] (q : Q (.bl (PyData.eqv d e)) H) : rEqB K x y H Q := ⟨d, e, a, b, q⟩
theorem rd_neD {d e : PyData} [a : DP K H x d] [b : DP K H y e] (q : Q (.bl (!PyData.eqv d e)) H) : rNeB K x y H Q := ⟨d, e, a, b, q⟩
theorem rd_gtup {n : Nat} {t : TGs} {R : L2.St → Hp → Prop} [o : OB H p (.tup xs)] (l : xs.length = n := by rfl) (h : t xs σ H R) : gTupB n t (.ref p) σ H R := ⟨p, xs, rfl, o, l, h⟩
theorem rd_gcons {g : TG} {gs : TGs} {vs : List V} {R : L2.St → Hp → Prop} (h : g v σ H fun σ' H' => gs vs σ' H' R) : gCons g gs (v :: vs) σ H R := ⟨v, vs, rfl, h⟩
theorem rd_gnil {R : L2.St → Hp → Prop} (h : R σ H) : gNil [] σ H R := ⟨rfl, h⟩
def kPar (i j : Nat) (σ : L2.St) (N : L2.St → Hp → Prop) : List V → Hp → Prop := fun vs H1 => ∃ v w, vs = [v, w] ∧ N ((σ.set i (some v)).set j (some w)) H1
theorem rd_par {j : Nat} {t : TA} (h : t σ H (kPar i j σ D.nx)) : tPar i j t D σ H := h
theorem rd_kPar {j : Nat} {N : L2.St → Hp → Prop} (h : N ((σ.set i (some x)).set j (some y)) H) : kPar i j σ N [x, y] H := ⟨x, y, rfl, h⟩
def kPar3 (i j l : Nat) (σ : L2.St) (N : L2.St → Hp → Prop) : List V → Hp → Prop := fun vs H1 => ∃ u v w, vs = [u, v, w] ∧ N (((σ.set i (some u)).set j (some v)).set l (some w)) H1
theorem rd_par3 {j l : Nat} {t : TA} (h : t σ H (kPar3 i j l σ D.nx)) : tPar3 i j l t D σ H := h
theorem rd_kPar3 {j l : Nat} {N : L2.St → Hp → Prop} (h : N (((σ.set i (some x)).set j (some y)).set l (some v)) H) : kPar3 i j l σ N [x, y, v] H := ⟨x, y, v, rfl, h⟩
theorem rd_T {b : Bool} {A B : Prop} (e : b = true) (h : A) : if b = true then A else B := by rw [if_pos e]; exact h
theorem rd_F {b : Bool} {A B : Prop} (e : b = false) (h : B) : if b = true then A else B := by rw [if_neg (by rw [e]; exact Bool.false_ne_true)]; exact h
theorem rd_nF {b : Bool} {A B : Prop} (e : b = true) (h : B) : if (!b) = true then A else B := rd_F (by rw [e]; rfl) h
theorem rd_nT {b : Bool} {A B : Prop} (e : b = false) (h : A) : if (!b) = true then A else B := rd_T (by rw [e]; rfl) h
theorem rd_D {c A B : Prop} [Decidable c] (h1 : c → A) (h2 : ¬ c → B) : if decide c = true then A else B := by
  by_cases h : c
  · exact rd_T (decide_eq_true h) (h1 h)
  · exact rd_F (decide_eq_false h) (h2 h)
theorem rd_nD {c A B : Prop} [Decidable c] (h1 : c → B) (h2 : ¬ c → A) : if (!decide c) = true then A else B := by
  by_cases h : c
  · exact rd_nF (decide_eq_true h) (h1 h)
  · exact rd_nT (decide_eq_false h) (h2 h)
end
/-! ### a def of the text, and its promise -/
structure Fn0 (K : PySem.W.Frag) (mg : Str → Option Value) (x : Str) (ps : List Str) (st : Stmt) : Prop where
  ex : ∃ f fd, mg x = some (.ref f) ∧ Fun K x x st f fd ∧ Binds K fd ps []
structure FnC (CX : CXT) (P : Program) (w : World) (K : PySem.W.Frag) (mg : Str → Option Value) (base : Heap) (x : Str) (ps : List Str) (k : Nat) (sp : Sp) : Prop where
  ex : ∃ f fd, mg x = some (.ref f) ∧ FnOk P w K mg base CX k f fd ps sp ∧ Binds K fd ps [] ∧ PySem.W.keepIn K (.ref f) = true
/-- never raises where it promises | may raise -/
abbrev Fn := FnC CX0
abbrev FnX (P : Program) (w : World) := FnC (L2.CX P w) P w
section
variable {P : Program} {w : World} {K : PySem.W.Frag} {mg : Str → Option Value} {base : Heap}
theorem Fn0.ok {x : Str} {ps : List Str} {st : Stmt} {N : List Str} {k : Nat} {sp : Sp} (F : Fn0 K mg x ps st) (S : FnScope N ps (defScope st)) (len : ∀ vs H Q E, sp vs H Q E → vs.length = ps.length)
    (hbody : ∀ (f : Addr) (cdv : Value) (A : Around) (outer : List Env) (s : Shared) (H : Hp) (vs : List V) (Q : VK) (E : XK), Room k (A.deeper (PyProof.Rows.envOfC x (defScope st) s.heap.objs.size f cdv)) → sp vs H Q E →
      ∃ t, PSs (cxOf CX0 P w K mg base N x (defScope st) f cdv A outer s H E).nox (defBody st) t ∧ t { nx := fun _ H' => Q .non H', rt := Q } (start N vs) H) : Fn P w K mg base x ps (k + 1) sp := by
  obtain ⟨f, fd, hm, F, b⟩ := F.ex
  exact ⟨f, fd, hm, F.ok S len (hbody f), b, F.kp⟩
theorem Fn0.okX {x : Str} {ps : List Str} {st : Stmt} {N : List Str} {k : Nat} {sp : Sp} (F : Fn0 K mg x ps st) (S : FnScope N ps (defScope st)) (len : ∀ vs H Q E, sp vs H Q E → vs.length = ps.length)
    (hbody : ∀ (f : Addr) (cdv : Value) (A : Around) (outer : List Env) (s : Shared) (H : Hp) (vs : List V) (Q : VK) (E : XK), Room k (A.deeper (PyProof.Rows.envOfC x (defScope st) s.heap.objs.size f cdv)) → sp vs H Q E →
      ∃ t, PSs (cxOf (L2.CX P w) P w K mg base N x (defScope st) f cdv A outer s H E) (defBody st) t ∧ t { nx := fun _ H' => Q .non H', rt := Q } (start N vs) H) : FnX P w K mg base x ps (k + 1) sp := by
  obtain ⟨f, fd, hm, F, b⟩ := F.ex
  exact ⟨f, fd, hm, F.okX S len (hbody f), b, F.kp⟩
end
def tFn (sp : Sp) (E : XK) (t : TA) : TE := fun σ H Q => t σ H fun vs H1 => sp vs H1 Q E
theorem rd_fn {sp : Sp} {E : XK} {t : TA} {σ : L2.St} {H : Hp} {Q : VK} (h : t σ H fun vs H1 => sp vs H1 Q E) : tFn sp E t σ H Q := h
section
variable {X : Cx} {CX : CXT} {x : Str} {ps : List Str} {j k : Nat} {sp : Sp} {e : Expr} {es : List Expr} {t : TA} {p pos : Pos} {E : XK}
theorem pe_fnE (F : FnC CX X.prog X.w X.K X.mg X.base x ps j sp) (hr : Room k X.A) (hx : Passes CX X E) (hg : Gl X x) (ha : PA X (e :: es) t) (hl : j ≤ k := by decide) (hdb : (x == ("__debug__" : Str)) = false := by decide)
    (he : starEach (e :: es) X.env = (false, eval e X.env) :: starEach es X.env := by rfl) (hpl : (backTo pos (starEach es X.env)).any (·.1) = false := by rfl) : PE X (.Call (.Name x p) (e :: es) [] pos) (tFn sp E t) := by
  obtain ⟨f, fd, hm, G, b, kp⟩ := F.ex
  refine pe_weak (pe_call G (hr.mono hl) hg hm kp b .nil hx ha hdb he hpl) fun σ H Q a => ?_
  have e : (fun (vs : List V) H1 => sp (vs ++ []) H1 Q E) = fun vs H1 => sp vs H1 Q E := by
    funext vs H1
    rw [List.append_nil]
  show t σ H (fun vs H1 => sp (vs ++ []) H1 Q E)
  rw [e]
  exact a
theorem pe_fn (F : Fn X.prog X.w X.K X.mg X.base x ps j sp) (hr : Room k X.A) (hg : Gl X x) (ha : PA X (e :: es) t) (hl : j ≤ k := by decide) (hdb : (x == ("__debug__" : Str)) = false := by decide)
    (he : starEach (e :: es) X.env = (false, eval e X.env) :: starEach es X.env := by rfl) (hpl : (backTo pos (starEach es X.env)).any (·.1) = false := by rfl) : PE X (.Call (.Name x p) (e :: es) [] pos) (tFn sp E0 t) :=
  pe_fnE F hr pass0 hg ha hl hdb he hpl
end

/-! ### sizes -/
def Bd (n : Int) : Prop := n.natAbs < 2 ^ 400000
theorem bd_s {n : Int} (h : n.natAbs < 18446744073709551616) : Bd n := Nat.lt_of_lt_of_le (show n.natAbs < 2 ^ 64 from h) (Nat.pow_le_pow_right (by decide) (by decide))
theorem bd_le {m n : Int} (h0 : 0 ≤ m) (h : m ≤ n) (hn : Bd n) : Bd m := Nat.lt_of_le_of_lt (by omega) hn
theorem bd_lt {n : Int} {k : Nat} (h : n.natAbs < 2 ^ k) (hk : k ≤ 400000 := by decide) : Bd n := Nat.lt_of_lt_of_le h (Nat.pow_le_pow_right (by decide) hk)
theorem mulw {i j : Int} (hi : Bd i) (hj : Bd j) : CMulW i j := wide_mul hi hj (by decide) (by decide) (by decide)
theorem divw {i j : Int} (h0 : 0 < j) (h : j.natAbs < 18446744073709551616) : CDivW i j := wide_div (b := 64) h0 h (by decide) (by decide)
def rPowL (a : Int) (n : Nat) : R2 := fun x y H Q => x = .int a ∧ y = .int (n : Int) ∧ Q (.int (a ^ n)) H
theorem op_powL {X : Cx} (a : Int) (n : Nat) (h1 : n ≤ 1000000 := by decide) (h2 : a.natAbs < 2 ^ 64 := by decide) : OpR X (binaryOp .Pow) (rPowL a n) := op_weak op_pow fun x y H Q ⟨e1, e2, q⟩ =>
  ⟨a, n, e1, e2, ⟨Int.natCast_nonneg _, by omega, h2⟩, by show Q (.int (a ^ ((n : Int).toNat))) _; rw [Int.toNat_natCast]; exact q⟩
theorem rd_powL {H : Hp} {Q : VK} {x y : V} {a : Int} {n : Nat} (e1 : x = .int a) (e2 : y = .int (n : Int)) (q : Q (.int (a ^ n)) H) : rPowL a n x y H Q := ⟨e1, e2, q⟩
def rShlL (k : Nat) (x y : V) (H : Hp) (Q : VK) : Prop := x = .int 1 ∧ y = .int (k : Int) ∧ Q (.int (2 ^ k)) H
theorem op_shlL {X : Cx} (k : Nat) (h1 : k ≤ 1000000 := by decide) : OpR X (binaryOp .LShift) (rShlL k) := op_weak op_shl fun x y H Q ⟨e1, e2, q⟩ =>
  ⟨1, k, e1, e2, ⟨Int.natCast_nonneg _, by omega, by decide⟩, by show Q (.int (1 * 2 ^ ((k : Int).toNat))) _; rw [Int.toNat_natCast, Int.one_mul]; exact q⟩
theorem rd_shlL {H : Hp} {Q : VK} {x y : V} {k : Nat} (e1 : x = .int 1) (e2 : y = .int (k : Int)) (q : Q (.int (2 ^ k)) H) : rShlL k x y H Q := ⟨e1, e2, q⟩
theorem atI_int {ns : List Int} {z : Int} (h0 : 0 ≤ z) (h1 : z < ns.length) : atI (ns.map V.int) z = some (.int (ns.getD z.toNat 0)) := by
  obtain ⟨k, rfl⟩ := Int.eq_ofNat_of_zero_le h0
  refine atI_nat ?_
  have h : k < ns.length := by omega
  simp [h]
theorem rd_ixTI {H : Hp} {Q : VK} {p : Addr} {xs : List V} (ns : List Int) {z : Int} [o : OB H p (.tup xs)] (e : xs = ns.map V.int) (h0 : 0 ≤ z) (h1 : z < ns.length) (q : Q (.int (ns.getD z.toNat 0)) H) : rIxTB (.ref p) (.int z) H Q := by
  subst e
  exact rd_ixT (atI_int h0 h1) q
theorem rd_ixRI {K : PySem.W.Frag} {H : Hp} {Q : VK} {p : Addr} {ns : List Int} {z : Int} [o : IR K H p ns] (h0 : 0 ≤ z) (h1 : z < ns.length) (q : Q (.int (ns.getD z.toNat 0)) H) : rIxRB K (.ref p) (.int z) H Q := rd_ixR (atI_int h0 h1) q
theorem rd_max2 {H : Hp} {Q : VK} {a b : Int} (q : Q (.int (max a b)) H) : rMax2B [.int a, .int b] H Q := ⟨a, b, rfl, q⟩
theorem rd_min2 {H : Hp} {Q : VK} {a b : Int} (q : Q (.int (min a b)) H) : rMin2B [.int a, .int b] H Q := ⟨a, b, rfl, q⟩
theorem rd_abs {H : Hp} {Q : VK} {a : Int} (q : Q (.int (a.natAbs : Int)) H) : rAbsB [.int a] H Q := ⟨a, rfl, q⟩
theorem at_head {u : Int} {r : List Int} : atI ((u :: r).map V.int) 0 = some (.int u) := at_of (j := 0) rfl rfl
/-! ### data and == -/
theorem dpInts {K : PySem.W.Frag} {H : Hp} : ∀ ns : List Int, DpAll K H (ns.map V.int) (ns.map PyData.int)
  | [] => .nil
  | n :: r => .cons (.int n) (dpInts r)
theorem lay_ints : ∀ ns : List Int, PyData.canLayAll0 (ns.map PyData.int) = true
  | [] => by simp [PyData.canLayAll0]
  | n :: r => by simp [PyData.canLayAll0, PyData.canLay0, lay_ints r]
theorem dep_ints : ∀ ns : List Int, PyData.depthAll (ns.map PyData.int) = 0
  | [] => by simp [PyData.depthAll]
  | n :: r => by simp [PyData.depthAll, PyData.depth, dep_ints r]
theorem sh_ints (ns : List Int) : SeqAt.shaped (.list (ns.map PyData.int)) = true := by
  simp [SeqAt.shaped, PyData.canLay0, PyData.depth, lay_ints, dep_ints]
theorem eqv_ints : ∀ ns ms : List Int, PyData.eqvAll (ns.map PyData.int) (ms.map PyData.int) = decide (ns = ms)
  | [], [] => by simp [PyData.eqvAll]
  | [], _ :: _ => by simp [PyData.eqvAll]
  | _ :: _, [] => by simp [PyData.eqvAll]
  | n :: r, m :: q => by
    have ih := eqv_ints r q
    simp only [List.map_cons, PyData.eqvAll, PyData.eqv, ih]
    rw [Bool.eq_iff_iff]
    simp
theorem eqv_lst (ns ms : List Int) : PyData.eqv (.list (ns.map PyData.int)) (.list (ms.map PyData.int)) = decide (ns = ms) := by
  show PyData.eqvAll _ _ = _
  exact eqv_ints ns ms
/-- lists of ints, written or not -/
class ILs (xs : List V) (ns : outParam (List Int)) : Prop where e : xs = ns.map V.int
instance ilNil : ILs [] [] := ⟨rfl⟩
instance ilCons {n : Int} {xs : List V} {ns : List Int} [o : ILs xs ns] : ILs (.int n :: xs) (n :: ns) := ⟨by rw [o.e]; rfl⟩
instance ilMap {ns : List Int} : ILs (ns.map V.int) ns := ⟨rfl⟩
instance ilApp {xs ys : List V} {ns ms : List Int} [a : ILs xs ns] [b : ILs ys ms] : ILs (xs ++ ys) (ns ++ ms) := ⟨by rw [a.e, b.e, List.map_append]⟩
instance ilRev {xs : List V} {ns : List Int} [a : ILs xs ns] : ILs xs.reverse ns.reverse := ⟨by rw [a.e, List.map_reverse]⟩
class BLs (xs : List V) (bs : outParam (List Bool)) : Prop where e : xs = bs.map V.bl
instance blNil : BLs [] [] := ⟨rfl⟩
instance blCons {b : Bool} {xs : List V} {bs : List Bool} [o : BLs xs bs] : BLs (.bl b :: xs) (b :: bs) := ⟨by rw [o.e]; rfl⟩
instance blMap {bs : List Bool} : BLs (bs.map V.bl) bs := ⟨rfl⟩
instance blMapF {α : Type} {l : List α} {f : α → Bool} : BLs (l.map fun x => V.bl (f x)) (l.map f) := ⟨by rw [List.map_map]; rfl⟩
instance blApp {xs ys : List V} {bs cs : List Bool} [o : BLs xs bs] [o2 : BLs ys cs] : BLs (xs ++ ys) (bs ++ cs) := ⟨by rw [o.e, o2.e, List.map_append]⟩
instance ilMapF {α : Type} {l : List α} {f : α → Int} : ILs (l.map fun x => V.int (f x)) (l.map f) := ⟨by rw [List.map_map]; rfl⟩
instance dpInt {K H i} : DP K H (.int i) (.int i) := ⟨.int i, rfl⟩
instance dpBl {K H i} : DP K H (.bl i) (.bool i) := ⟨.bl i, rfl⟩
instance dpNon {K H} : DP K H .non .none := ⟨.non, rfl⟩
instance dpIL {K H p} {xs : List V} {ns : List Int} [o : OB H p (.lst xs)] [e : ILs xs ns] : DP K H (.ref p) (.list (ns.map PyData.int)) := ⟨.lst o.sq (by rw [e.e]; exact dpInts ns), sh_ints ns⟩
instance dpT2 {K H p} {a b : Int} [o : OB H p (.tup [.int a, .int b])] : DP K H (.ref p) (.tuple [.int a, .int b]) := ⟨.tup o.st (.cons (.int a) (.cons (.int b) .nil)), rfl⟩
theorem rd_eqT {K : PySem.W.Frag} {H : Hp} {Q : VK} {x y : V} {a b c d : Int} [o : DP K H x (.tuple [.int a, .int b])] [o' : DP K H y (.tuple [.int c, .int d])] (q : Q (.bl (decide (a = c ∧ b = d))) H) : rEqB K x y H Q := ⟨_, _, o, o', by
  have e : PyData.eqv (.tuple [.int a, .int b]) (.tuple [.int c, .int d]) = decide (a = c ∧ b = d) := by
    simp only [PyData.eqv, PyData.eqvAll, Bool.and_true]
    rw [Bool.eq_iff_iff]
    simp
  rw [e]; exact q⟩
theorem rd_neT {K : PySem.W.Frag} {H : Hp} {Q : VK} {x y : V} {a b c d : Int} [o : DP K H x (.tuple [.int a, .int b])] [o' : DP K H y (.tuple [.int c, .int d])] (q : Q (.bl (!decide (a = c ∧ b = d))) H) : rNeB K x y H Q := ⟨_, _, o, o', by
  have e : PyData.eqv (.tuple [.int a, .int b]) (.tuple [.int c, .int d]) = decide (a = c ∧ b = d) := by
    simp only [PyData.eqv, PyData.eqvAll, Bool.and_true]
    rw [Bool.eq_iff_iff]
    simp
  rw [e]; exact q⟩
theorem rd_eqL {K : PySem.W.Frag} {H : Hp} {Q : VK} {x y : V} {ns ms : List Int} [a : DP K H x (.list (ns.map PyData.int))] [b : DP K H y (.list (ms.map PyData.int))] (q : Q (.bl (decide (ns = ms))) H) : rEqB K x y H Q := ⟨_, _, a, b, by rw [eqv_lst]; exact q⟩
theorem rd_neL {K : PySem.W.Frag} {H : Hp} {Q : VK} {x y : V} {ns ms : List Int} [a : DP K H x (.list (ns.map PyData.int))] [b : DP K H y (.list (ms.map PyData.int))] (q : Q (.bl (!decide (ns = ms))) H) : rNeB K x y H Q := ⟨_, _, a, b, by rw [eqv_lst]; exact q⟩
theorem rd_ixLI {H : Hp} {Q : VK} {p : Addr} {xs : List V} {ns : List Int} {z : Int} [o : OB H p (.lst xs)] [e : ILs xs ns] (h0 : 0 ≤ z) (h1 : z < ns.length) (q : Q (.int (ns.getD z.toNat 0)) H) : rIxLB (.ref p) (.int z) H Q := rd_ixL (by rw [e.e]; exact atI_int h0 h1) q
theorem rd_appendI {H : Hp} {Q : VK} {p : Addr} {xs : List V} {v : V} {ns : List Int} [o : OB H p (.lst xs)] [e : ILs xs ns] (l : ns.length < 100000) (h : kMut Q .non p (.lst (xs ++ [v])) H) : rAppendB (.ref p) [v] H Q := rd_append (by rw [e.e, List.length_map]; exact l) h
theorem rd_lenI {H : Hp} {Q : VK} {p : Addr} {xs : List V} {ns : List Int} [o : OB H p (.lst xs)] [e : ILs xs ns] (q : Q (.int (ns.length : Int)) H) : rLenB [.ref p] H Q := ⟨p, xs, rfl, o, by rw [e.e, List.length_map]; exact q⟩
theorem rd_allB {H : Hp} {Q : VK} {p : Addr} {xs : List V} {bs : List Bool} [o : OB H p (.lst xs)] [e : BLs xs bs] (q : Q (.bl (bs.all id)) H) : rAllB [.ref p] H Q := ⟨p, bs, rfl, by rw [← e.e]; exact o, q⟩
theorem rd_anyB {H : Hp} {Q : VK} {p : Addr} {xs : List V} {bs : List Bool} [o : OB H p (.lst xs)] [e : BLs xs bs] (q : Q (.bl (bs.any id)) H) : rAnyB [.ref p] H Q := ⟨p, bs, rfl, by rw [← e.e]; exact o, q⟩
theorem rd_sumB {H : Hp} {Q : VK} {p : Addr} {xs : List V} {ns : List Int} [o : OB H p (.lst xs)] [e : ILs xs ns] (q : Q (.int ns.sum) H) : rSumB [.ref p] H Q := ⟨p, ns, rfl, by rw [← e.e]; exact o, q⟩
theorem ob_ints {H : Hp} {p : Addr} {xs : List V} {ns : List Int} (a : ILs xs ns) (o : OB H p (.lst xs)) : OB H p (.lst (ns.map V.int)) := by rw [← a.e]; exact o

/-! ### what is walked -/
structure It1 (J : It) (n : Nat) (ok : Hp → Prop) (it : Nat → V → Hp → Hp → Prop) : Prop where
  go : ∀ i H, i < n → ok H → J.go i H
  stop : ∀ H, ok H → J.stop n H
  yld : ∀ i v H H', i < n → ok H → J.yld i H v H' → it i v H H'
def itS (xs : List V) : Nat → V → Hp → Hp → Prop := fun i v H H' => H' = H ∧ xs[i]? = some v
def itR (lo c : Int) : Nat → V → Hp → Hp → Prop := fun i v H H' => H' = H ∧ v = .int (lo + (i : Nat) * c)
def itE (xs : List V) : Nat → V → Hp → Hp → Prop := fun i v H H' => ∃ T x, v = .ref T ∧ xs[i]? = some x ∧ SM H' H ∧ FR0 H T ∧ OB H' T (.tup [.int (i : Nat), x])
def itZ (xs ys : List V) : Nat → V → Hp → Hp → Prop := fun i v H H' => ∃ T x y, v = .ref T ∧ xs[i]? = some x ∧ ys[i]? = some y ∧ SM H' H ∧ FR0 H T ∧ OB H' T (.tup [x, y])
theorem it_list {K : PySem.W.Frag} {a : Addr} {xs : List V} : It1 (Itl K a) xs.length (fun H => OB H a (.lst xs)) (itS xs) :=
  ⟨fun i H h o => ⟨xs, xs[i], o.sq, by simp [h]⟩, fun H o => ⟨xs, o.sq, Nat.le_refl _⟩, fun i v H H' h o ⟨e, f⟩ => ⟨e, f xs o.sq⟩⟩
theorem it_rlist {K : PySem.W.Frag} {a : Addr} {ns : List Int} : It1 (Itl K a) ns.length (fun H => IR K H a ns) (itS (ns.map V.int)) :=
  ⟨fun i H h o => ⟨_, _, o.h, List.getElem?_eq_getElem (by simp [h])⟩, fun H o => ⟨_, o.h, by simp⟩, fun i v H H' h o ⟨e, f⟩ => ⟨e, f _ o.h⟩⟩
theorem it_tup {K : PySem.W.Frag} {a : Addr} {xs : List V} : It1 (Itt K a) xs.length (fun H => OB H a (.tup xs)) (itS xs) :=
  ⟨fun i H h o => ⟨xs, xs[i], o.st, by simp [h]⟩, fun H o => ⟨xs, o.st, Nat.le_refl _⟩, fun i v H H' h o ⟨e, f⟩ => ⟨e, f xs o.st⟩⟩
theorem it_range {lo : Int} {n : Nat} : It1 (Itr lo n) n (fun _ => True) (itR lo 1) :=
  ⟨fun i H h o => h, fun H o => Nat.le_refl _, fun i v H H' h o ⟨e, f⟩ => ⟨e, by rw [f, Int.mul_one]⟩⟩
theorem it_rangeC {lo c : Int} {n : Nat} : It1 (Itc lo c n) n (fun _ => True) (itR lo c) :=
  ⟨fun i H h o => h, fun H o => Nat.le_refl _, fun i v H H' h o ⟨e, f⟩ => ⟨e, f⟩⟩
theorem it_enum {K : PySem.W.Frag} {a : Addr} {xs : List V} : It1 (Ite K a) xs.length (fun H => OB H a (.lst xs)) (itE xs) :=
  ⟨fun i H h o => ⟨xs, xs[i], o.sq, by simp [h]⟩, fun H o => ⟨xs, o.sq, Nat.le_refl _⟩, fun i v H H' h o ⟨T, x, e, n, e', f⟩ => ⟨T, x, e, f xs o.sq, by subst e'; exact SM.new n, ⟨n⟩, by subst e'; exact OB.new⟩⟩
theorem it_zip {K : PySem.W.Frag} {a b : Addr} {xs ys : List V} : It1 (Itz K a b) (min xs.length ys.length) (fun H => OB H a (.lst xs) ∧ OB H b (.lst ys)) (itZ xs ys) :=
  ⟨fun i H h o => ⟨xs, ys, xs[i], ys[i], o.1.sq, o.2.sq, by simp, by simp⟩, fun H o => ⟨xs, ys, o.1.sq, o.2.sq, by omega⟩, fun i v H H' h o ⟨T, x, y, e, n, e', f, f'⟩ => ⟨T, x, y, e, f xs o.1.sq, f' ys o.2.sq, by subst e'; exact SM.new n, ⟨n⟩, by subst e'; exact OB.new⟩⟩
def kFor (g : TG) (tb : TS) (D : Ends) (σ : L2.St) : It → Hp → Prop := fun J H1 => ∃ W : Nat → Nat → L2.St → Hp → Prop, (∃ m, W 0 m σ H1) ∧ ∀ i m σ H, W i m σ H →
  (J.stop i H ∧ D.nx σ H) ∨ (J.go i H ∧ ∃ N : L2.St → Hp → Prop, (∀ σ' H', N σ' H' → ∃ m', m' < m ∧ W (i + 1) m' σ' H') ∧ ∀ x H', J.yld i H x H' → g x σ H' fun σ2 H2 => tb { D with nx := N, ct := N, bk := D.nx } σ2 H2)
def kLc (g : TG) (tt : TT) (te : TE) (vs : List Nat) (σ : L2.St) (Q : VK) : It → Hp → Prop := fun J H1 => ∀ D, H1 D = none → ∃ W : Nat → Nat → Hp → Prop, (∃ m, W 0 m (upd H1 D (.lst []))) ∧ ∀ i m H, W i m H →
  (J.stop i H ∧ Q (.ref D) H) ∨ (J.go i H ∧ ∃ Nx : Hp → Prop, (∀ H', Nx H' → ∃ m', m' < m ∧ W (i + 1) m' H') ∧ ∀ x H', J.yld i H x H' → g x (wipe σ vs) H' fun σ2 H2 => wipe σ2 vs = wipe σ vs ∧ tt σ2 H2 fun b H3 =>
    if b = true then te σ2 H3 fun y H4 => ∃ acc, H4 D = some (.lst acc) ∧ acc.length < sizeLine ∧ Nx (upd H4 D (.lst (acc ++ [y]))) else Nx H3)
def kItT (K : PySem.W.Frag) (R : It → Hp → Prop) : VK := fun x H1 => ∃ a, x = .ref a ∧ (∃ xs, SqT K H1 a xs) ∧ R (Itt K a) H1
def kItL (K : PySem.W.Frag) (R : It → Hp → Prop) : VK := fun x H1 => ∃ a, x = .ref a ∧ (∃ xs, SqL K H1 a xs) ∧ R (Itl K a) H1
def kR1 (R : It → Hp → Prop) : List V → Hp → Prop := fun vs H1 => ∃ j : Int, vs = [.int j] ∧ -(2 ^ 62) ≤ j ∧ j < 2 ^ 62 ∧ R (Itr 0 j.toNat) H1
def kR2 (R : It → Hp → Prop) : List V → Hp → Prop := fun vs H1 => ∃ i j : Int, vs = [.int i, .int j] ∧ (-(2 ^ 62) ≤ i ∧ i < 2 ^ 62 ∧ -(2 ^ 62) ≤ j ∧ j < 2 ^ 62) ∧ R (Itr i (j - i).toNat) H1
def kR3 (R : It → Hp → Prop) : List V → Hp → Prop := fun vs H1 => ∃ (i j c : Int) (n : Nat), vs = [.int i, .int j, .int c] ∧ RgC i j c n ∧ R (Itc i c n) H1
def kEn (K : PySem.W.Frag) (R : It → Hp → Prop) : List V → Hp → Prop := fun vs H1 => ∃ a xs, vs = [.ref a] ∧ SqL K H1 a xs ∧ R (Ite K a) H1
def kZi (K : PySem.W.Frag) (R : It → Hp → Prop) : List V → Hp → Prop := fun vs H1 => ∃ a b xs ys, vs = [.ref a, .ref b] ∧ SqL K H1 a xs ∧ SqL K H1 b ys ∧ R (Itz K a b) H1
section
variable {K : PySem.W.Frag} {σ : L2.St} {H : Hp} {Q : VK} {D : Ends} {g : TG} {tb : TS} {wi : TI} {tt : TT} {te tl : TE} {ta : TA} {vs : List Nat} {R : It → Hp → Prop} {p q : Addr} {xs ys : List V} {J : It} {n : Nat} {ok : Hp → Prop} {it : Nat → V → Hp → Hp → Prop}
theorem rd_for (h : wi σ H (kFor g tb D σ)) : tFor wi g tb D σ H := h
theorem rd_lc (h : wi σ H (kLc g tt te vs σ Q)) : tLc wi g tt te vs σ H Q := h
theorem rd_iT (h : tl σ H (kItT K R)) : iTup K tl σ H R := h
theorem rd_iL (h : tl σ H (kItL K R)) : iList K tl σ H R := h
theorem rd_kItT [o : OB H p (.tup xs)] (h : R (Itt K p) H) : kItT K R (.ref p) H := ⟨p, rfl, ⟨xs, o.st⟩, h⟩
theorem rd_kItL [o : OB H p (.lst xs)] (h : R (Itl K p) H) : kItL K R (.ref p) H := ⟨p, rfl, ⟨xs, o.sq⟩, h⟩
theorem rd_kItR {ns : List Int} [o : IR K H p ns] (h : R (Itl K p) H) : kItL K R (.ref p) H := ⟨p, rfl, ⟨_, o.h⟩, h⟩
theorem rd_i1 (h : ta σ H (kR1 R)) : iRng1 ta σ H R := h
theorem rd_i2 (h : ta σ H (kR2 R)) : iRng2 ta σ H R := h
theorem rd_i3 (h : ta σ H (kR3 R)) : iRng3 ta σ H R := h
theorem rd_iE (h : ta σ H (kEn K R)) : iEnum K ta σ H R := h
theorem rd_iZ (h : ta σ H (kZi K R)) : iZip K ta σ H R := h
theorem rd_kR1 {j : Int} (h0 : -(2 ^ 62) ≤ j ∧ j < 2 ^ 62) (h : R (Itr 0 j.toNat) H) : kR1 R [.int j] H := ⟨j, rfl, h0.1, h0.2, h⟩
theorem rd_kR2 {i j : Int} (h0 : -(2 ^ 62) ≤ i ∧ i < 2 ^ 62 ∧ -(2 ^ 62) ≤ j ∧ j < 2 ^ 62) (h : R (Itr i (j - i).toNat) H) : kR2 R [.int i, .int j] H := ⟨i, j, rfl, h0, h⟩
theorem rd_kR3 {i j c : Int} {n : Nat} (h0 : RgC i j c n) (h : R (Itc i c n) H) : kR3 R [.int i, .int j, .int c] H := ⟨i, j, c, n, rfl, h0, h⟩
theorem rd_kEn [o : OB H p (.lst xs)] (h : R (Ite K p) H) : kEn K R [.ref p] H := ⟨p, xs, rfl, o.sq, h⟩
theorem rd_kZi [o : OB H p (.lst xs)] [o' : OB H q (.lst ys)] (h : R (Itz K p q) H) : kZi K R [.ref p, .ref q] H := ⟨p, q, xs, ys, rfl, o.sq, o'.sq, h⟩
theorem rd_yes {R : Bool → Hp → Prop} (h : R true H) : tYes σ H R := h
theorem rd_wipe {A : Prop} {σ' : L2.St} (e : wipe σ' vs = wipe σ vs) (h : A) : wipe σ' vs = wipe σ vs ∧ A := ⟨e, h⟩
/-- a for, by its invariant -/
theorem forG (Y : It1 J n ok it) (Pv : Nat → L2.St → Hp → Prop) (h0 : Pv 0 σ H) (hok : ∀ i σ H, Pv i σ H → ok H)
    (hs : ∀ i v σ H H', i < n → Pv i σ H → it i v H H' → g v σ H' fun σ2 H2 => tb { D with nx := Pv (i + 1), ct := Pv (i + 1), bk := D.nx } σ2 H2) (hd : ∀ σ H, Pv n σ H → D.nx σ H) : kFor g tb D σ J H := by
  refine ⟨fun i m σ H => m = n - i ∧ i ≤ n ∧ Pv i σ H, ⟨n, by simp, Nat.zero_le _, h0⟩, ?_⟩
  rintro i m σ H ⟨rfl, hi, p⟩
  by_cases hlt : i < n
  · exact .inr ⟨Y.go i H hlt (hok _ _ _ p), Pv (i + 1), fun σ' H' p' => ⟨n - (i + 1), by omega, rfl, hlt, p'⟩, fun v H' y => hs i v σ H H' hlt p (Y.yld i v H H' hlt (hok _ _ _ p) y)⟩
  · have e : i = n := by omega
    subst e
    exact .inl ⟨Y.stop H (hok _ _ _ p), hd σ H p⟩
theorem forM {a : L2.St → Hp → Prop} {b : VK} {c d : L2.St → Hp → Prop} (Y : It1 J n ok it) (Pv : Nat → L2.St → Hp → Prop) (h0 : Pv 0 σ H) (hok : ∀ i σ H, Pv i σ H → ok H)
    (hs : ∀ i v σ H H', i < n → Pv i σ H → it i v H H' → g v σ H' fun σ2 H2 => tb (Ends.mk (Pv (i + 1)) b a (Pv (i + 1))) σ2 H2) (hd : ∀ σ H, Pv n σ H → a σ H) : kFor g tb (Ends.mk a b c d) σ J H := forG Y Pv h0 hok hs hd
theorem whM {a : L2.St → Hp → Prop} {b : VK} {c d : L2.St → Hp → Prop} {tc : TT} (W : Nat → L2.St → Hp → Prop) (h0 : ∃ m, W m σ H)
    (hs : ∀ m σ H, W m σ H → tc σ H fun z H1 => if z = true then ∃ N : L2.St → Hp → Prop, (∀ σ' H', N σ' H' → ∃ m', m' < m ∧ W m' σ' H') ∧ tb (Ends.mk N b a N) σ H1 else a σ H1) : tWhile tc tb (Ends.mk a b c d) σ H := ⟨W, h0, hs⟩
/-- a comprehension whose element and test leave all as it was -/
theorem lcG (Y : It1 J n ok it) (acc : Nat → List V) (a0 : acc 0 = []) (hl : ∀ i, i < n → (acc i).length < 100000) (hok : ∀ H', SM H' H → ok H')
    (hs : ∀ i v H' H'', i < n → SM H' H → it i v H' H'' → ∀ (Nt : VK) (Nf : Hp → Prop), (∀ y H4, SM H4 H' → acc (i + 1) = acc i ++ [y] → Nt y H4) → (∀ H3, SM H3 H' → acc (i + 1) = acc i → Nf H3) →
      g v (wipe σ vs) H'' fun σ2 H2 => wipe σ2 vs = wipe σ vs ∧ tt σ2 H2 fun b H3 => if b = true then te σ2 H3 Nt else Nf H3)
    (hk : kNew Q (.lst (acc n)) H) : kLc g tt te vs σ Q J H := by
  intro D hD
  refine ⟨fun i m H' => m = n - i ∧ i ≤ n ∧ SM H' H ∧ H' D = some (.lst (acc i)), ⟨n, by simp, Nat.zero_le _, SM.new hD, by rw [a0]; exact upd_same⟩, ?_⟩
  rintro i m H' ⟨rfl, hi, s, d⟩
  by_cases hlt : i < n
  · refine .inr ⟨Y.go i H' hlt (hok _ s), fun H4 => SM H4 H ∧ H4 D = some (.lst (acc (i + 1))), fun H4 p' => ⟨n - (i + 1), by omega, rfl, hlt, p'⟩, fun v H'' y => ?_⟩
    refine hs i v H' H'' hlt s (Y.yld i v H' H'' hlt (hok _ s) y) _ _ (fun y H4 s4 e => ?_) (fun H3 s3 e => ?_)
    · refine ⟨acc i, s4.s _ _ d, slt_of (hl i hlt), ⟨fun b o h => ?_⟩, by rw [e]; exact upd_same⟩
      rw [upd_ne (ne_of_none h hD)]
      exact s4.s _ _ (s.s _ _ h)
    · exact ⟨⟨fun b o h => s3.s _ _ (s.s _ _ h)⟩, by rw [e]; exact s3.s _ _ d⟩
  · have e : i = n := by omega
    subst e
    exact .inl ⟨Y.stop H' (hok _ s), hk D H' s ⟨hD⟩ ⟨d⟩⟩
/-- every item to its value -/
theorem lcMap {α : Type} (l : List α) (f : α → V) (Y : It1 J n ok it) (hn : n = l.length) (hl : l.length ≤ 100000) (hok : ∀ H', SM H' H → ok H')
    (hs : ∀ i x v H' H'', l[i]? = some x → SM H' H → it i v H' H'' → ∀ (Nt : VK) (Nf : Hp → Prop), (∀ H4, SM H4 H' → Nt (f x) H4) →
      g v (wipe σ vs) H'' fun σ2 H2 => wipe σ2 vs = wipe σ vs ∧ tt σ2 H2 fun b H3 => if b = true then te σ2 H3 Nt else Nf H3)
    (hk : kNew Q (.lst (l.map f)) H) : kLc g tt te vs σ Q J H := by
  subst hn
  refine lcG Y (fun i => (l.take i).map f) rfl (fun i hi => ?_) hok (fun i v H' H'' hi s y Nt Nf ht hf => ?_) ?_
  · rw [List.length_map, List.length_take]; omega
  · refine hs i l[i] v H' H'' (List.getElem?_eq_getElem hi) s y Nt Nf fun H4 s4 => ht _ _ s4 ?_
    show (l.take (i + 1)).map f = (l.take i).map f ++ [f l[i]]
    rw [List.take_succ_eq_append_getElem hi, List.map_append]
    rfl
  · rw [List.take_length]
    exact hk
end

/-! ### more of lists -/
theorem divb {i j : Int} (h0 : 0 < j) (h : j.natAbs < 2 ^ 8000) : CDivW i j := wide_div (b := 8000) h0 h (by decide) (by decide)
theorem bd_mul {i j : Int} {a b : Nat} (hi : i.natAbs < 2 ^ a) (hj : j.natAbs < 2 ^ b) (h : a + b ≤ 400000 := by decide) : Bd (i * j) := bd_lt (wide_lt hi hj) h
theorem op_repB {X : Cx} : OpR X (binaryOp .Mult) rRepB := op_weak op_rep fun x y H Q ⟨l, k, xs, a, b, o, h1, h2, n, q⟩ => ⟨l, k, xs, a, b, o.h, h1, h2, small_of n, q.of⟩
theorem rd_rep {H : Hp} {Q : VK} {p : Addr} {xs : List V} {k : Int} [o : OB H p (.lst xs)] (h : -(2 ^ 63) ≤ k ∧ k < 2 ^ 63) (l : xs.length * k.toNat ≤ 100000) (q : kNew Q (.lst (List.replicate k.toNat xs).flatten) H) : rRepB (.ref p) (.int k) H Q := ⟨p, k, xs, rfl, rfl, o, h.1, h.2, l, q⟩
theorem rep_one {k : Nat} {n : Int} : (List.replicate k [V.int n]).flatten = (List.replicate k n).map V.int := by
  induction k with
  | zero => rfl
  | succ k ih => rw [List.replicate_succ, List.replicate_succ, List.flatten_cons, ih]; rfl
def rListB : List V → Hp → VK → Prop := fun vs H Q => ∃ p xs, vs = [.ref p] ∧ OB H p (.lst xs) ∧ kNew Q (.lst xs) H
theorem cr_listB {X : Cx} : CallR X (.type "list") rListB := cr_weak call_list_of fun vs H Q ⟨p, xs, e, o, q⟩ => ⟨p, xs, e, .inl o.sq, q.of⟩
theorem rd_list {H : Hp} {Q : VK} {p : Addr} {xs : List V} [o : OB H p (.lst xs)] (q : kNew Q (.lst xs) H) : rListB [.ref p] H Q := ⟨p, xs, rfl, o, q⟩
theorem rd_sl {σ : L2.St} {H : Hp} {Q : VK} {r : V → Option Int → Option Int → Hp → VK → Prop} {te : TE} {tl th : TO} (h : te σ H fun x H1 => tl σ H1 fun l H2 => th σ H2 fun u H3 => r x l u H3 Q) : tSl r te tl th σ H Q := h
theorem rd_nopart {σ : L2.St} {H : Hp} {R : Option Int → Hp → Prop} (h : R none H) : tNoPart σ H R := h
def kPart (R : Option Int → Hp → Prop) : VK := fun x H => ∃ i, x = .int i ∧ R (some i) H
theorem rd_part {σ : L2.St} {H : Hp} {R : Option Int → Hp → Prop} {t : TE} (h : t σ H (kPart R)) : tPart t σ H R := h
theorem rd_kPart {H : Hp} {R : Option Int → Hp → Prop} {i : Int} (h : R (some i) H) : kPart R (.int i) H := ⟨i, rfl, h⟩
theorem rd_slL {H : Hp} {Q : VK} {p : Addr} {xs : List V} {lo hi : Option Int} [o : OB H p (.lst xs)] (q : kNew Q (.lst (cutV xs lo hi)) H) : rSlB (.ref p) lo hi H Q := ⟨p, xs, rfl, o, q⟩
/-- a slice of ints -/
def cutI (ns : List Int) (lo hi : Option Int) : List Int := (ns.drop (HT.sIx ns.length 0 lo)).take (HT.sIx ns.length ns.length hi - HT.sIx ns.length 0 lo)
theorem cut_map (ns : List Int) (lo hi : Option Int) : cutV (ns.map V.int) lo hi = (cutI ns lo hi).map V.int := by
  unfold cutV cutI
  rw [List.length_map, List.map_take, List.map_drop]
theorem cut_mem {ns : List Int} {lo hi : Option Int} {x : Int} (h : x ∈ cutI ns lo hi) : x ∈ ns := List.mem_of_mem_drop (List.mem_of_mem_take h)
theorem cut_len (ns : List Int) (lo hi : Option Int) : (cutI ns lo hi).length ≤ ns.length := by
  unfold cutI
  rw [List.length_take, List.length_drop]
  omega
theorem cut_to (ns : List Int) (k : Nat) : cutI ns none (some (k : Int)) = ns.take k := by
  unfold cutI
  rw [HT.sIx_none, HT.sIx_nat, List.drop_zero, Nat.sub_zero, ← List.take_take, List.take_length]
  try rfl
theorem cut_from (ns : List Int) (k : Nat) : cutI ns (some (k : Int)) none = ns.drop k := by
  unfold cutI
  rw [HT.sIx_none, HT.sIx_nat]
  by_cases h : k ≤ ns.length
  · rw [Nat.min_eq_left h, List.take_of_length_le (by rw [List.length_drop]; omega)]
  · rw [Nat.min_eq_right (by omega), List.drop_of_length_le (Nat.le_refl _), List.drop_of_length_le (by omega), List.take_nil]
instance ilCut {xs : List V} {ns : List Int} {lo hi : Option Int} [a : ILs xs ns] : ILs (cutV xs lo hi) (cutI ns lo hi) := ⟨by rw [a.e, cut_map]⟩
section
variable {K : PySem.W.Frag} {σ : L2.St} {H : Hp} {Q : VK} {g : TG} {tt : TT} {te : TE} {vs : List Nat} {J : It} {n : Nat} {ok : Hp → Prop} {it : Nat → V → Hp → Hp → Prop}
/-- elements of which just something is known -/
theorem lcInts (p : Int → Prop) (Y : It1 J n ok it) (hl : n ≤ 100000) (hok : ∀ H', SM H' H → ok H')
    (hs : ∀ i v H' H'', i < n → SM H' H → it i v H' H'' → ∀ (Nt : VK) (Nf : Hp → Prop), (∀ z H4, p z → SM H4 H' → Nt (.int z) H4) →
      g v (wipe σ vs) H'' fun σ2 H2 => wipe σ2 vs = wipe σ vs ∧ tt σ2 H2 fun b H3 => if b = true then te σ2 H3 Nt else Nf H3)
    (hk : ∀ ns : List Int, ns.length = n → (∀ z ∈ ns, p z) → kNew Q (.lst (ns.map V.int)) H) : kLc g tt te vs σ Q J H := by
  intro D hD
  refine ⟨fun i m H' => m = n - i ∧ i ≤ n ∧ SM H' H ∧ ∃ ns : List Int, ns.length = i ∧ (∀ z ∈ ns, p z) ∧ H' D = some (.lst (ns.map V.int)), ⟨n, by simp, Nat.zero_le _, SM.new hD, [], rfl, by simp, upd_same⟩, ?_⟩
  rintro i m H' ⟨rfl, hi, s, ns, e, hp, d⟩
  by_cases hlt : i < n
  · refine .inr ⟨Y.go i H' hlt (hok _ s), fun H4 => SM H4 H ∧ ∃ ns : List Int, ns.length = i + 1 ∧ (∀ z ∈ ns, p z) ∧ H4 D = some (.lst (ns.map V.int)), fun H4 p' => ⟨n - (i + 1), by omega, rfl, hlt, p'⟩, fun v H'' y => ?_⟩
    refine hs i v H' H'' hlt s (Y.yld i v H' H'' hlt (hok _ s) y) _ _ (fun z H4 pz s4 => ?_)
    refine ⟨ns.map V.int, s4.s _ _ d, slt_of (by rw [List.length_map]; omega), ⟨fun b o h => ?_⟩, ns ++ [z], by simp [e], ?_, by rw [List.map_append]; exact upd_same⟩
    · rw [upd_ne (ne_of_none h hD)]
      exact s4.s _ _ (s.s _ _ h)
    · intro y hy
      rcases List.mem_append.mp hy with h | h
      · exact hp y h
      · rw [List.mem_singleton.mp h]; exact pz
  · have e' : i = n := by omega
    exact .inl ⟨e' ▸ Y.stop H' (hok _ s), hk ns (e.trans e') hp D H' s ⟨hD⟩ ⟨d⟩⟩
/-- those items that a test keeps -/
theorem lcKeep {α : Type} (l : List α) (f : α → V) (kp : α → Bool) (Y : It1 J n ok it) (hn : n = l.length) (hl : l.length ≤ 100000) (hok : ∀ H', SM H' H → ok H')
    (hs : ∀ i x v H' H'', l[i]? = some x → SM H' H → it i v H' H'' → ∀ (Nt : VK) (Nf : Hp → Prop), (∀ H4, SM H4 H' → kp x = true → Nt (f x) H4) → (∀ H4, SM H4 H' → kp x = false → Nf H4) →
      g v (wipe σ vs) H'' fun σ2 H2 => wipe σ2 vs = wipe σ vs ∧ tt σ2 H2 fun b H3 => if b = true then te σ2 H3 Nt else Nf H3)
    (hk : kNew Q (.lst ((l.filter kp).map f)) H) : kLc g tt te vs σ Q J H := by
  subst hn
  refine lcG Y (fun i => ((l.take i).filter kp).map f) (by simp) (fun i hi => ?_) hok (fun i v H' H'' hi s y Nt Nf ht hf => ?_) ?_
  · rw [List.length_map]
    have := List.length_filter_le kp (l.take i)
    rw [List.length_take] at this
    omega
  · refine hs i l[i] v H' H'' (List.getElem?_eq_getElem hi) s y Nt Nf (fun H4 s4 e => ht _ _ s4 ?_) (fun H4 s4 e => hf _ s4 ?_)
    · show ((l.take (i + 1)).filter kp).map f = ((l.take i).filter kp).map f ++ [f l[i]]
      rw [List.take_succ_eq_append_getElem hi, List.filter_append, List.map_append]
      simp [e]
    · show ((l.take (i + 1)).filter kp).map f = ((l.take i).filter kp).map f
      rw [List.take_succ_eq_append_getElem hi, List.filter_append]
      simp [e]
  · show kNew Q (.lst (((l.take l.length).filter kp).map f)) H
    rw [List.take_length]
    exact hk
end

theorem obl {H : Hp} {p : Addr} {xs : List V} {ns : List Int} [o : OB H p (.lst xs)] [a : ILs xs ns] : OB H p (.lst (ns.map V.int)) := ob_ints a o
theorem ref_non {p : Addr} : decide (V.ref p = V.non) = false := by simp
theorem int_non {p : Int} : decide (V.int p = V.non) = false := by simp
theorem all_mt {α : Type} {l : List α} : (l.map fun _ => true).all id = true := by simp
/-- the ways behind an if are joined -/
instance ilRep {k : Nat} {n : Int} : ILs (List.replicate k [V.int n]).flatten (List.replicate k n) := ⟨rep_one⟩
theorem rd_cut {t u : TS} {a : L2.St → Hp → Prop} {b : VK} {c d : L2.St → Hp → Prop} {σ : L2.St} {H : Hp} (Mid : L2.St → Hp → Prop) (h : t (Ends.mk Mid b c d) σ H) (k : ∀ σ' H', Mid σ' H' → u (Ends.mk a b c d) σ' H') : Evl.tCut t u (Ends.mk a b c d) σ H := ⟨Mid, h, k⟩

/-! ### objects of own classes -/
/-- what the written part says of a class with fields | of a class that isinstance asks for -/
structure OwnC (K : PySem.W.Frag) (C : Addr) : Prop where
  cl : Cls K C
  ha : PySem.W.findIn K (.ref C) "__class__" = some (some (.builtin "object.__class__"))
  hn : PySem.W.specialIn K (.builtin "object.__class__") "__get__" = some (some (.builtin "getset_descriptor.__get__"))
  ht : PySem.W.takesIn K (.builtin "object.__class__") = some true
  hm : PySem.W.mroIn K C (.type "object") = some true
structure AskC (K : PySem.W.Frag) (C : Addr) : Prop where
  hd : PySem.W.hasDictIn K C = true
  ty : PySem.W.typeIn K (.ref C) = some (.type "type")
theorem AskC.kit {K : PySem.W.Frag} {C : Addr} {t : Value} {b : Bool} (A : AskC K C) (hs : PySem.W.subIn K t (.ref C) = some b) (hne : (t == (.ref C : Value)) = true → b = true) : PySem.W.kitOne K t (.ref C) = some b := by
  unfold PySem.W.kitOne
  by_cases h : (t == (.ref C : Value)) = true
  · rw [if_pos h, hne h]
  · rw [if_neg h]
    show (if ((PySem.W.clsIn K C).isSome && PySem.W.typeIn K (.ref C) == some (.type "type")) = true then PySem.W.subIn K t (.ref C) else none) = some b
    have hd := A.hd
    unfold PySem.W.hasDictIn at hd
    have e : (PySem.W.clsIn K C).isSome = true := by
      revert hd
      cases PySem.W.clsIn K C <;> simp
    rw [e, A.ty]
    exact hs
class OwnI (K : PySem.W.Frag) (C : Addr) : Prop where h : OwnC K C
class NoaI (K : PySem.W.Frag) (C : Addr) (f : Str) : Prop where h : NoAttr K C f
class KitI (K : PySem.W.Frag) (D C : Addr) (b : outParam Bool) : Prop where h : PySem.W.kitOne K (.ref D) (.ref C) = some b
instance {K H a C dx fs} [o : OB H a (.ins C dx fs)] [c : OwnI K C] : TY K H (.ref a) (.ref C) := ⟨.base (.ins o.h c.h.cl c.h.ha c.h.hn c.h.ht c.h.hm)⟩
section
variable {K : PySem.W.Frag} {σ : L2.St} {H : Hp} {Q : VK} {D : Ends} {ta te tv : TE} {t : TA} {x y v : V} {a C dx : Addr} {f : Str} {fs : List (Str × V)} {sp : Sp} {E : XK}
theorem rd_isiC {b : Bool} {D C : Addr} [o : TY K H x (.ref D)] [e : KitI K D C b] (q : Q (.bl b) H) : rIsiB K [x, .ref C] H Q := ⟨x, _, _, _, b, rfl, .own C, o, e.h, q⟩
class LkI (fs : List (Str × V)) (f : Str) (v : outParam V) : Prop where h : fs.lookup f = some v
class NeS (f g : Str) : Prop where h : (f == g) = false
instance : NeS "left" "place" := ⟨by decide +kernel⟩
instance : NeS "carries" "row" := ⟨by decide +kernel⟩
instance lkHead {f : Str} {v : V} {r : List (Str × V)} : LkI ((f, v) :: r) f v := ⟨by simp⟩
instance (priority := 100) lkTail {f g : Str} {v w : V} {r : List (Str × V)} [n : NeS f g] [k : LkI r f v] : LkI ((g, w) :: r) f v := ⟨by rw [List.lookup_cons, n.h]; exact k.h⟩
def kFld (K : PySem.W.Frag) (f : Str) (Q : VK) : VK := fun x H1 => ∃ a C dx fs v, x = .ref a ∧ H1 a = some (.ins C dx fs) ∧ Cls K C ∧ NoAttr K C f ∧ fs.lookup f = some v ∧ Q v H1
theorem rd_fld (h : ta σ H (kFld K f Q)) : tFld K ta f σ H Q := h
theorem rd_kFld [o : OB H a (.ins C dx fs)] [c : OwnI K C] [n : NoaI K C f] [l : LkI fs f v] (q : Q v H) : kFld K f Q (.ref a) H := ⟨a, C, dx, fs, v, rfl, o.h, c.h.cl, n.h, l.h, q⟩
def kSF (K : PySem.W.Frag) (f : Str) (y : V) (D : Ends) (σ : L2.St) : VK := fun x H2 => ∃ a C dx fs, x = .ref a ∧ H2 a = some (.ins C dx fs) ∧ Cls K C ∧ NoAttr K C f ∧ fs.length < 1000 ∧ D.nx σ (upd H2 a (.ins C dx (putF f y fs)))
theorem rd_sfld (h : tv σ H fun y H1 => ta σ H1 (kSF K f y D σ)) : sFld K ta tv f D σ H := h
class PutI (f : Str) (y : V) (fs : List (Str × V)) (gs : outParam (List (Str × V))) : Prop where h : putF f y fs = gs
theorem rd_kSF {gs : List (Str × V)} [o : OB H a (.ins C dx fs)] [c : OwnI K C] [n : NoaI K C f] [g : PutI f y fs gs] (l : fs.length < 1000) (q : ∀ H', MU H' H a → OB H' a (.ins C dx gs) → D.nx σ H') : kSF K f y D σ (.ref a) H := ⟨a, C, dx, fs, rfl, o.h, c.h.cl, n.h, l, by
  rw [g.h]
  exact q _ MU.new OB.new⟩
theorem put_nil : putF f v [] = [(f, v)] := rfl
theorem put_two {g : Str} {w : V} (h : (f == g) = false) : putF f v [(g, w)] = [(g, w), (f, v)] := by
  have n : ¬ g = f := fun e => by rw [e] at h; simp at h
  show (if g = f then _ else (g, w) :: putF f v []) = _
  rw [if_neg n]
  rfl
instance putNil {f : Str} {y : V} : PutI f y [] [(f, y)] := ⟨rfl⟩
instance putHead {f : Str} {y w : V} {r : List (Str × V)} : PutI f y ((f, w) :: r) ((f, y) :: r) := ⟨by
  show (if f = f then _ else _) = _
  rw [if_pos rfl]⟩
instance (priority := 100) putTail {f g : Str} {y w : V} {r gs : List (Str × V)} [n : NeS f g] [k : PutI f y r gs] : PutI f y ((g, w) :: r) ((g, w) :: gs) := ⟨by
  have h := n.h
  have n : ¬ g = f := fun e => by rw [e] at h; simp at h
  show (if g = f then _ else (g, w) :: putF f y r) = _
  rw [if_neg n, k.h]⟩
/-- C(..) -/
def tMk (C : Addr) (sp : Sp) (E : XK) (t : TA) : TE := fun σ H Q => t σ H fun vs H1 => ∀ x dx H2, SM H2 H1 → FR0 H1 x → OB H2 x (.ins C dx []) → sp (.ref x :: vs) H2 (fun v H3 => v = .non ∧ Q (.ref x) H3) E
def kMk (C : Addr) (sp : Sp) (E : XK) (Q : VK) : List V → Hp → Prop := fun vs H1 => ∀ x dx H2, SM H2 H1 → FR0 H1 x → OB H2 x (.ins C dx []) → sp (.ref x :: vs) H2 (fun v H3 => v = .non ∧ Q (.ref x) H3) E
theorem rd_mk (h : t σ H (kMk C sp E Q)) : tMk C sp E t σ H Q := h
theorem rd_kMk {vs : List V} (h : ∀ x dx H2, SM H2 H → FR0 H x → OB H2 x (.ins C dx []) → sp (.ref x :: vs) H2 (fun v H3 => v = .non ∧ Q (.ref x) H3) E) : kMk C sp E Q vs H := h
/-- o.m(..) -/
def kMt (C : Addr) (m : Str) (sp : Sp) (E : XK) (t : TA) (σ : L2.St) (Q : VK) : VK := fun x H1 => ∃ a dx fs, x = .ref a ∧ H1 a = some (.ins C dx fs) ∧ fs.lookup m = none ∧ t σ H1 fun vs H2 => sp (x :: vs) H2 Q E
def tMt (C : Addr) (m : Str) (sp : Sp) (E : XK) (ta : TE) (t : TA) : TE := fun σ H Q => ta σ H (kMt C m sp E t σ Q)
theorem rd_mt {m : Str} (h : ta σ H (kMt C m sp E t σ Q)) : tMt C m sp E ta t σ H Q := h
theorem rd_kMt {m : Str} [o : OB H a (.ins C dx fs)] (n : fs.lookup m = none) (h : t σ H fun vs H2 => sp (.ref a :: vs) H2 Q E) : kMt C m sp E t σ Q (.ref a) H := ⟨a, dx, fs, rfl, o.h, n, h⟩
end
structure I0 (K : PySem.W.Frag) (C : Addr) (q : Str) (ps : List Str) (st : Stmt) : Prop where
  ex : ∃ f fd, Fun K "__init__" q st f fd ∧ Binds K fd ps [] ∧ Mk K C f
structure M0 (K : PySem.W.Frag) (C : Addr) (m q : Str) (ps : List Str) (st : Stmt) : Prop where
  ex : ∃ f fd, Fun K m q st f fd ∧ Binds K fd ps [] ∧ Meth K C m f
structure FnI (P : Program) (w : World) (K : PySem.W.Frag) (mg : Str → Option Value) (base : Heap) (C : Addr) (ps : List Str) (k : Nat) (sp : Sp) : Prop where
  ex : ∃ f fd, FnOk P w K mg base CX0 k f fd ps sp ∧ Binds K fd ps [] ∧ Mk K C f
structure FnM (P : Program) (w : World) (K : PySem.W.Frag) (mg : Str → Option Value) (base : Heap) (C : Addr) (m : Str) (ps : List Str) (k : Nat) (sp : Sp) : Prop where
  ex : ∃ f fd, FnOk P w K mg base CX0 k f fd ps sp ∧ Binds K fd ps [] ∧ Meth K C m f
section
variable {P : Program} {w : World} {K : PySem.W.Frag} {mg : Str → Option Value} {base : Heap} {C : Addr}
theorem I0.ok {q : Str} {ps : List Str} {st : Stmt} {N : List Str} {k : Nat} {sp : Sp} (F : I0 K C q ps st) (S : FnScope N ps (defScope st)) (len : ∀ vs H Q E, sp vs H Q E → vs.length = ps.length)
    (hbody : ∀ (f : Addr) (cdv : Value) (A : Around) (outer : List Env) (s : Shared) (H : Hp) (vs : List V) (Q : VK) (E : XK), Room k (A.deeper (PyProof.Rows.envOfC q (defScope st) s.heap.objs.size f cdv)) → sp vs H Q E →
      ∃ t, PSs (cxOf CX0 P w K mg base N q (defScope st) f cdv A outer s H E).nox (defBody st) t ∧ t { nx := fun _ H' => Q .non H', rt := Q } (start N vs) H) : FnI P w K mg base C ps (k + 1) sp := by
  obtain ⟨f, fd, F, b, m⟩ := F.ex
  exact ⟨f, fd, F.ok S len (hbody f), b, m⟩
theorem M0.ok {m q : Str} {ps : List Str} {st : Stmt} {N : List Str} {k : Nat} {sp : Sp} (F : M0 K C m q ps st) (S : FnScope N ps (defScope st)) (len : ∀ vs H Q E, sp vs H Q E → vs.length = ps.length)
    (hbody : ∀ (f : Addr) (cdv : Value) (A : Around) (outer : List Env) (s : Shared) (H : Hp) (vs : List V) (Q : VK) (E : XK), Room k (A.deeper (PyProof.Rows.envOfC q (defScope st) s.heap.objs.size f cdv)) → sp vs H Q E →
      ∃ t, PSs (cxOf CX0 P w K mg base N q (defScope st) f cdv A outer s H E).nox (defBody st) t ∧ t { nx := fun _ H' => Q .non H', rt := Q } (start N vs) H) : FnM P w K mg base C m ps (k + 1) sp := by
  obtain ⟨f, fd, F, b, m⟩ := F.ex
  exact ⟨f, fd, F.ok S len (hbody f), b, m⟩
end
section
variable {X : Cx} {x : Str} {ps : List Str} {j k : Nat} {sp : Sp} {e o : Expr} {es : List Expr} {t : TA} {ta : TE} {p pos : Pos} {C : Addr} {m : Str}
theorem app_nil_fun {sp : Sp} {Q : VK} {E : XK} {x : List V} : (fun (vs : List V) (H1 : Hp) => sp (x ++ (vs ++ [])) H1 Q E) = fun vs H1 => sp (x ++ vs) H1 Q E := by
  funext vs H1
  rw [List.append_nil]
theorem pe_mk (F : FnI X.prog X.w X.K X.mg X.base C ps j sp) (hr : Room k X.A) (hg : Gl X x) (hm : X.mg x = some (.ref C)) (ha : PA X (e :: es) t) (hl : j + 1 ≤ k := by decide) (hdb : (x == ("__debug__" : Str)) = false := by decide)
    (he : starEach (e :: es) X.env = (false, eval e X.env) :: starEach es X.env := by rfl) (hpl : (backTo pos (starEach es X.env)).any (·.1) = false := by rfl) : PE X (.Call (.Name x p) (e :: es) [] pos) (tMk C sp E0 t) := by
  obtain ⟨f, fd, G, b, M⟩ := F.ex
  refine pe_weak (pe_make M G (hr.mono hl) hg hm b .nil pass0 (pa_up ha) hdb (by exact he) hpl) fun σ H Q a => ?_
  refine ⟨_, a, fun vs H1 h => ?_⟩
  intro x dx hx hd hne
  rw [List.append_nil]
  refine h x dx _ ⟨fun b o q => ?_⟩ ⟨hx⟩ OB.new
  rw [upd_ne (ne_of_none q hx), upd_ne (ne_of_none q hd)]
  exact q
end

section
variable {X : Cx} {e : Expr} {ta : TE} {t : TA} {C : Addr} {m : Str} {sp : Sp} {E : XK}
theorem mt_of (h : PE X e (tMeth C m sp [] E (upE ta) t)) : PE X e (tMt C m sp E ta t) := pe_weak h fun σ H Q a => by
  refine ⟨_, a, fun x H1 ⟨a, dx, fs, e1, o, n, q⟩ => ⟨a, dx, fs, e1, o, n, ?_⟩⟩
  have e2 : (fun (vs : List V) (H2 : Hp) => sp (x :: (vs ++ [])) H2 Q E) = fun vs H2 => sp (x :: vs) H2 Q E := by
    funext vs H2
    rw [List.append_nil]
  rw [e2]
  exact q
end

section
variable {X : Cx} {K : PySem.W.Frag} {e o value : Expr} {f : Str} {pos pos' : Pos} {ta tv : TE}
theorem pe_fldK (hK : X.K = K) (he : PE X e ta) (hb : attributeBase e f X.env (eval e X.env) = eval e X.env) : PE X (.Attribute e f pos) (tFld K ta f) := by
  subst hK
  exact pe_fld he hb
theorem ps_fldK (hK : X.K = K) (ha : PE X o ta) (hv : PE X value tv) (hs : swapsWith value (some (.Attribute o f pos')) pos.line X.env = pure false) : PS X (.Assign [.Attribute o f pos'] value pos) (sFld K ta tv f) := by
  subst hK
  exact ps_fld ha hv hs
end
theorem mu_two {H H1 H2 : Hp} {p : Addr} (a : MU H1 H p) (b : MU H2 H1 p) : MU H2 H p := ⟨fun c o n h => b.s c o n (a.s c o n h)⟩
/-! ### list(range(i, j, c)) -/
def stepsV (i c : Int) (n : Nat) : List V := (List.range n).map fun k => V.int (i + (k : Nat) * c)
def kLR3 (Q : VK) : List V → Hp → Prop := fun vs H => ∃ (i j c : Int) (n : Nat), vs = [.int i, .int j, .int c] ∧ RgC i j c n ∧ n ≤ 100000 ∧ kNew Q (.lst (stepsV i c n)) H
def tLR3 (ta : TA) : TE := fun σ H Q => ta σ H (kLR3 Q)
section
variable {X : Cx} {a b c : Expr} {ta : TA} {p p2 pos pos2 : Pos}
theorem made_range3 (hg2 : Gl X "range") (hm2 : X.mg "range" = none) (ha : PA X [a, b, c] ta) (hs : starEach [a, b, c] X.env = (false, eval a X.env) :: starEach [b, c] X.env) (hpl : (backTo pos2 (starEach [b, c] X.env)).any (·.1) = false)
    {pins : List (Addr × Obj)} {s : Shared} {σ : L2.St} {H : Hp} {Q : VK} (I : Inv X pins σ H s) (h : ta σ H (kLR3 Q)) :
    wpAny (model X.prog X.w) X.A (eval (.Call (.Name "range" p2) [a, b, c] [] pos2) X.env) (fun x s' => ∃ r i j k t u v n H', x = .ref r ∧ IsRange s'.heap r i j k t u v ∧ Inv X pins σ H' s' ∧ RgC i j k n ∧ n ≤ 100000 ∧ kNew Q (.lst (stepsV i k n)) H') X.xe s := by
  refine PyProof.Rows.Call_ (ld_blt I hg2 hm2 PyProof.Rows.boot_range (PyProof.Rows.callWith_type1 (thn (ha.run pos2 pins s σ H _ I h) ?_) hs hpl))
  rintro us s1 ⟨vs, H1, I1, r1, i, j, k, n, e, rg, hn, q⟩
  subst e
  obtain ⟨u1, r2, rfl, w1, rr⟩ : ∃ u r, us = u :: r ∧ RelV (.int i) u ∧ Vals [.int j, .int k] r := by
    cases r1 with
    | cons x y => exact ⟨_, _, rfl, x, y⟩
  obtain ⟨u2, u3, rfl, w2, w3⟩ := vals2 rr
  obtain ⟨t1, rfl⟩ := w1
  obtain ⟨t2, rfl⟩ := w2
  obtain ⟨t3, rfl⟩ := w3
  have keep : Inv X pins σ H1 { s1 with heap := s1.heap.push { cls := .type "range", data := .fields #[.int i t1, .int j t2, .int k t3] } } := I1.kept (t' := s1.toks) fun z o hz => Heap.get?_push_of_some _ hz
  exact call_range_3 rg.1 ⟨_, i, j, k, t1, t2, t3, n, H1, rfl, IsRange.new .., keep, rg, hn, q⟩ (.inl (PyProof.noPylong_small rg.2.1))
theorem pe_listR3 (hc : X.calm = true) (hg : Gl X "list") (hm : X.mg "list" = none) (hg2 : Gl X "range") (hm2 : X.mg "range" = none) (ha : PA X [a, b, c] ta)
    (hs : starEach [a, b, c] X.env = (false, eval a X.env) :: starEach [b, c] X.env := by rfl) (hpl : (backTo pos2 (starEach [b, c] X.env)).any (·.1) = false := by rfl)
    (na : starEach [.Call (.Name "range" p2) [a, b, c] [] pos2] X.env = (false, eval (.Call (.Name "range" p2) [a, b, c] [] pos2) X.env) :: starEach [] X.env := by rfl) :
    PE X (.Call (.Name "list" p) [.Call (.Name "range" p2) [a, b, c] [] pos2] [] pos) (tLR3 ta) := by
  refine ⟨fun pins s σ H Q I h => ?_⟩
  refine PyProof.Rows.Call_ (ld_blt I hg hm PyProof.Rows.boot_list (PyProof.Rows.callWith_type1 (PyProof.Rows.args_cons (thn (made_range3 hg2 hm2 ha hs hpl I h) ?_) na) na))
  rintro x s1 ⟨r, i, j, k, t, u, v, n, H1, rfl, hr, I1, rg, hn, q⟩
  refine PyProof.Rows.args_nil (call_list_range (n := n) (I1.ok.hd hc) hr rg.2.2.1 rg.2.2.2 (Nat.le_trans hn (by decide)) ?_)
  intro h' tk acc c' hk e' hi
  have len : acc.toList.length = n := by rw [Array.length_toList]; exact hi.1
  have hv : Vals (stepsV i k n) acc.toList := by
    unfold stepsV
    rw [← len]
    refine L2.vals_of_get acc.toList _ fun m w hw => hi.2 m w (by rw [← hw, Array.getElem?_toList])
  have okk : ObjOk X.prog X.w (upd H1 s1.heap.objs.size (.lst (stepsV i k n))) h' s1.heap.objs.size (.lst (stepsV i k n)) := ⟨by unfold stepsV; rw [List.length_map, List.length_range]; exact small_of hn, acc.toList, c', hv, by rw [Array.toArray_toList]; exact e'⟩
  exact ⟨.ref s1.heap.objs.size, _, I1.laid hk (Nat.le_refl _) okk, rfl, q.of _ (I1.hok.fresh (Nat.le_refl _))⟩
end
theorem rd_LR3 {ta : TA} {σ : L2.St} {H : Hp} {Q : VK} (h : ta σ H (kLR3 Q)) : tLR3 ta σ H Q := h
theorem rd_kLR3 {Q : VK} {H : Hp} {i j c : Int} {n : Nat} (h : RgC i j c n) (hn : n ≤ 100000) (q : kNew Q (.lst (stepsV i c n)) H) : kLR3 Q [.int i, .int j, .int c] H := ⟨i, j, c, n, rfl, h, hn, q⟩
theorem stepsV_ints {i c : Int} {n : Nat} : stepsV i c n = ((List.range n).map fun k : Nat => i + (k : Int) * c).map V.int := by
  unfold stepsV
  rw [List.map_map]
  rfl
instance ilSteps {i c : Int} {n : Nat} : ILs (stepsV i c n) ((List.range n).map fun k : Nat => i + (k : Int) * c) := ⟨stepsV_ints⟩
theorem rd_xF {A B X Y : Prop} [Decidable A] [Decidable B] (h : A ↔ B) (k : Y) : if (decide (decide A ≠ decide B)) = true then X else Y := by
  have e : decide A = decide B := by
    rw [Bool.eq_iff_iff, decide_eq_true_iff, decide_eq_true_iff]
    exact h
  rw [e]
  exact rd_F (by simp) k
/-! ### lists of lists -/
/-- all but what p holds stays, p's list too may change -/
inductive Fa {α β : Type} (R : α → β → Prop) : List α → List β → Prop
  | nil : Fa R [] []
  | cons {x y xs ys} : R x y → Fa R xs ys → Fa R (x :: xs) (y :: ys)
section
variable {α β : Type} {R S : α → β → Prop} {xs us : List α} {ys ws : List β}
theorem Fa.imp (h : Fa R xs ys) (i : ∀ x y, R x y → S x y) : Fa S xs ys := by
  induction h with
  | nil => exact .nil
  | cons a _ ih => exact .cons (i _ _ a) ih
theorem Fa.len (h : Fa R xs ys) : xs.length = ys.length := by
  induction h with
  | nil => rfl
  | cons _ _ ih => rw [List.length_cons, List.length_cons, ih]
theorem Fa.app (h : Fa R xs ys) (k : Fa R us ws) : Fa R (xs ++ us) (ys ++ ws) := by
  induction h with
  | nil => exact k
  | cons a _ ih => exact .cons a ih
theorem Fa.get (h : Fa R xs ys) : ∀ {i : Nat} {x : α}, xs[i]? = some x → ∃ y, ys[i]? = some y ∧ R x y := by
  induction h with
  | nil => intro i x e; simp at e
  | cons a _ ih =>
    intro i x e
    cases i with
    | zero => exact ⟨_, rfl, by rw [← Option.some.inj e]; exact a⟩
    | succ i => exact ih (i := i) e
theorem Fa.get2 (h : Fa R xs ys) : ∀ {i : Nat} {y : β}, ys[i]? = some y → ∃ x, xs[i]? = some x ∧ R x y := by
  induction h with
  | nil => intro i x e; simp at e
  | cons a _ ih =>
    intro i x e
    cases i with
    | zero => exact ⟨_, rfl, by rw [← Option.some.inj e]; exact a⟩
    | succ i => exact ih (i := i) e
end
/-- a list of ints stands at v -/
def LI (H : Hp) (v : V) (ns : List Int) : Prop := ∃ q, v = .ref q ∧ OB H q (.lst (ns.map V.int))
theorem LI.mono {H G : Hp} {v : V} {ns : List Int} (s : SX H G) (h : LI G v ns) : LI H v ns := by
  obtain ⟨q, e, o⟩ := h
  exact ⟨q, e, ⟨s.s _ _ o.h⟩⟩
theorem LI.mut {H G : Hp} {v : V} {ns : List Int} {p : Addr} (s : MU H G p) (hp : ∀ q, v = .ref q → q ≠ p) (h : LI G v ns) : LI H v ns := by
  obtain ⟨q, e, o⟩ := h
  exact ⟨q, e, ⟨s.s _ _ (hp q e) o.h⟩⟩
class LLs (H : Hp) (xs : List V) (nss : outParam (List (List Int))) : Prop where h : Fa (LI H) xs nss
instance llNil {H} : LLs H [] [] := ⟨.nil⟩
instance llCons {H q xs ys ns nss} [o : OB H q (.lst ys)] [e : ILs ys ns] [r : LLs H xs nss] : LLs H (.ref q :: xs) (ns :: nss) := ⟨.cons ⟨q, rfl, ob_ints e o⟩ r.h⟩
instance (priority := 200) LLs.mono {H G : Hp} {xs : List V} {nss : List (List Int)} [a : SM H G] [b : LLs G xs nss] : LLs H xs nss := ⟨b.h.imp fun _ _ h => h.mono ⟨a.s⟩⟩
theorem LLs.up {H G : Hp} {xs : List V} {nss : List (List Int)} (b : LLs G xs nss) [a : SX H G] : LLs H xs nss := ⟨b.h.imp fun _ _ h => h.mono a⟩
theorem LLs.get {H : Hp} {xs : List V} {nss : List (List Int)} (b : LLs H xs nss) {i : Nat} {v : V} (e : xs[i]? = some v) : ∃ q ns, v = .ref q ∧ nss[i]? = some ns ∧ OB H q (.lst (ns.map V.int)) := by
  obtain ⟨ns, e2, q, e3, o⟩ := b.h.get e
  exact ⟨q, ns, e3, e2, o⟩
section
variable {K : PySem.W.Frag} {σ : L2.St} {H : Hp} {Q : VK} {g : TG} {tt : TT} {te : TE} {vs : List Nat} {J : It} {n : Nat} {ok : Hp → Prop} {it : Nat → V → Hp → Hp → Prop}
/-- elements that stand to the items as p says -/
theorem lcRel {α : Type} (l : List α) (kp : α → Bool) (p : Hp → V → α → Prop) (pm : ∀ H H' v x, SM H' H → p H v x → p H' v x) (Y : It1 J n ok it) (hn : n = l.length) (hl : l.length ≤ 100000) (hok : ∀ H', SM H' H → ok H')
    (hs : ∀ i x v H' H'' D acc, l[i]? = some x → SM H' H → FR0 H D → OB H' D (.lst acc) → it i v H' H'' → ∀ (Nt : VK) (Nf : Hp → Prop), (∀ y H4, kp x = true → SM H4 H' → (∀ H5, MU H5 H4 D → p H5 y x) → Nt y H4) → (∀ H4, kp x = false → SM H4 H' → Nf H4) →
      g v (wipe σ vs) H'' fun σ2 H2 => wipe σ2 vs = wipe σ vs ∧ tt σ2 H2 fun b H3 => if b = true then te σ2 H3 Nt else Nf H3)
    (hk : ∀ D ys H', SM H' H → FR0 H D → OB H' D (.lst ys) → Fa (p H') ys (l.filter kp) → Q (.ref D) H') : kLc g tt te vs σ Q J H := by
  subst hn
  intro D hD
  refine ⟨fun i m H' => m = l.length - i ∧ i ≤ l.length ∧ SM H' H ∧ ∃ ys, H' D = some (.lst ys) ∧ ∀ H5, MU H5 H' D → Fa (p H5) ys ((l.take i).filter kp), ⟨l.length, by simp, Nat.zero_le _, SM.new hD, [], upd_same, fun _ _ => by simp; exact .nil⟩, ?_⟩
  rintro i m H' ⟨rfl, hi, s, ys, d, hf⟩
  by_cases hlt : i < l.length
  · refine .inr ⟨Y.go i H' hlt (hok _ s), fun H4 => SM H4 H ∧ ∃ ys, H4 D = some (.lst ys) ∧ ∀ H5, MU H5 H4 D → Fa (p H5) ys ((l.take (i + 1)).filter kp), fun H4 p' => ⟨l.length - (i + 1), by omega, rfl, hlt, p'⟩, fun v H'' y => ?_⟩
    have tk : (l.take (i + 1)).filter kp = (l.take i).filter kp ++ (if kp l[i] = true then [l[i]] else []) := by
      rw [List.take_succ_eq_append_getElem hlt, List.filter_append]
      congr 1
      by_cases h : kp l[i] = true <;> simp [h]
    refine hs i l[i] v H' H'' D ys (List.getElem?_eq_getElem hlt) s ⟨hD⟩ ⟨d⟩ (Y.yld i v H' H'' hlt (hok _ s) y) _ _ (fun y H4 e s4 py => ?_) (fun H4 e s4 => ?_)
    · have len : ys.length ≤ 100000 := by
        have h1 := (hf _ ⟨fun _ _ _ h => h⟩).len
        have h2 := List.length_filter_le kp (l.take i)
        rw [List.length_take] at h2
        omega
      have len2 : ys.length < 100000 := by
        have h1 := (hf _ ⟨fun _ _ _ h => h⟩).len
        have h2 := List.length_filter_le kp (l.take i)
        rw [List.length_take] at h2
        omega
      refine ⟨ys, s4.s _ _ d, slt_of len2, ⟨fun b o h => ?_⟩, _, upd_same, fun H5 m5 => ?_⟩
      · rw [upd_ne (ne_of_none h hD)]
        exact s4.s _ _ (s.s _ _ h)
      · have m6 : MU H5 H4 D := ⟨fun c o n h => m5.s c o n (by rw [upd_ne n]; exact h)⟩
        have m7 : MU H5 H' D := ⟨fun c o n h => m6.s c o n (s4.s _ _ h)⟩
        rw [tk, if_pos e]
        exact (hf _ m7).app (.cons (py _ m6) .nil)
    · refine ⟨⟨fun b o h => s4.s _ _ (s.s _ _ h)⟩, ys, s4.s _ _ d, fun H5 m5 => ?_⟩
      rw [tk, if_neg (by rw [e]; exact Bool.false_ne_true), List.append_nil]
      exact hf _ ⟨fun c o n h => m5.s c o n (s4.s _ _ h)⟩
  · have e : i = l.length := by omega
    subst e
    refine .inl ⟨Y.stop H' (hok _ s), hk D ys H' s ⟨hD⟩ ⟨d⟩ ?_⟩
    have := hf H' ⟨fun _ _ _ h => h⟩
    rwa [List.take_length] at this
end
/-! ### one step of a reading, found by its head -/
class Rd (P : Prop) (P' : outParam Prop) : Prop where h : P' → P
theorem rdx {P P' : Prop} [r : Rd P P'] (h : P') : P := r.h h
class SlotI (σ : L2.St) (i : Nat) (v : outParam V) : Prop where h : σ[i]? = some (some v)
instance slotH {v : V} {r : L2.St} : SlotI (some v :: r) 0 v := ⟨rfl⟩
instance slotT {o : Option V} {r : L2.St} {i : Nat} {v : V} [s : SlotI r i v] : SlotI (o :: r) (i + 1) v := ⟨s.h⟩
class SetI (σ : L2.St) (i : Nat) (x : Option V) (σ' : outParam L2.St) : Prop where h : σ.set i x = σ'
instance setH {o x : Option V} {r : L2.St} : SetI (o :: r) 0 x (x :: r) := ⟨rfl⟩
instance setT {o x : Option V} {r r' : L2.St} {i : Nat} [s : SetI r i x r'] : SetI (o :: r) (i + 1) x (o :: r') := ⟨by rw [List.set_cons_succ, s.h]⟩
class NormSt (σ : L2.St) (σ' : outParam L2.St) : Prop where h : σ = σ'
instance nsNil : NormSt (L2.start [] []) [] := ⟨rfl⟩
instance nsNone {n : Str} {N : List Str} {σ : L2.St} [s : NormSt (L2.start N []) σ] : NormSt (L2.start (n :: N) []) (none :: σ) := ⟨by
  rw [← s.h]
  show List.replicate (N.length + 1) none = none :: List.replicate (N.length - 0) none
  rw [Nat.sub_zero, List.replicate_succ]⟩
instance nsSome {n : Str} {N : List Str} {v : V} {vs : List V} {σ : L2.St} [s : NormSt (L2.start N vs) σ] : NormSt (L2.start (n :: N) (v :: vs)) (some v :: σ) := ⟨by
  rw [← s.h]
  show some v :: vs.map some ++ List.replicate (N.length + 1 - (vs.length + 1)) none = some v :: (vs.map some ++ List.replicate (N.length - vs.length) none)
  rw [Nat.add_sub_add_right]
  rfl⟩
instance setS {N : List Str} {vs : List V} {σ σ' : L2.St} {i : Nat} {x : Option V} [n : NormSt (L2.start N vs) σ] [s : SetI σ i x σ'] : SetI (L2.start N vs) i x σ' := ⟨by rw [n.h]; exact s.h⟩
instance slotS {N : List Str} {vs : List V} {σ : L2.St} {i : Nat} {v : V} [n : NormSt (L2.start N vs) σ] [s : SlotI σ i v] : SlotI (L2.start N vs) i v := ⟨by rw [n.h]; exact s.h⟩
class AtI (xs : List V) (z : Int) (v : outParam V) : Prop where h : atI xs z = some v
instance at0 {v : V} {r : List V} : AtI (v :: r) 0 v := ⟨at_of (j := 0) rfl rfl⟩
instance at1 {u v : V} {r : List V} : AtI (u :: v :: r) 1 v := ⟨at_of (j := 1) rfl rfl⟩
instance at2 {u w v : V} {r : List V} : AtI (u :: w :: v :: r) 2 v := ⟨at_of (j := 2) rfl rfl⟩
section
variable {K : PySem.W.Frag} {σ σ' : L2.St} {H : Hp} {Q : VK} {D : Ends} {t u : TS} {ta tb tc te tv : TE} {x y v z : V} {i j l : Nat} {r r' : R2} {p q : Addr} {xs ys vs : List V}
variable {a : L2.St → Hp → Prop} {b : VK} {c d : L2.St → Hp → Prop} {g : TG} {N : L2.St → Hp → Prop} {R : Bool → Hp → Prop} {cc dd : TT} {tA : TA} {RL : List V → Hp → Prop} {RI : It → Hp → Prop} {ROp : Option Int → Hp → Prop} {sp : Sp} {E : XK} {A B : Prop} {C dx : Addr} {f m : Str} {fs : List (Str × V)}
instance : Rd (tSeq t u (Ends.mk a b c d) σ H) (t (Ends.mk (u (Ends.mk a b c d)) b c d) σ H) := ⟨fun h => h⟩
instance : Rd (tNext (Ends.mk a b c d) σ H) (a σ H) := ⟨fun h => h⟩
instance : Rd (tAsg te g (Ends.mk a b c d) σ H) (te σ H fun x H1 => g x σ H1 a) := ⟨fun h => h⟩
instance [s : SetI σ i (some v) σ'] : Rd (gName i v σ H N) (N σ' H) := ⟨fun h => by
  show N (σ.set i (some v)) H
  rw [s.h]; exact h⟩
instance [s : SlotI σ i v] : Rd (tVar i σ H Q) (Q v H) := ⟨fun h => ⟨v, s.h, h⟩⟩
instance : Rd (tC v σ H Q) (Q v H) := ⟨fun h => h⟩
instance : Rd (tOp r ta tb σ H Q) (ta σ H fun x H1 => tb σ H1 fun y H2 => r x y H2 Q) := ⟨fun h => h⟩
instance {r : V → Hp → VK → Prop} : Rd (tUn r ta σ H Q) (ta σ H fun x H1 => r x H1 Q) := ⟨fun h => h⟩
instance {k : Int → Int → V} {a b : Int} : Rd (rI0 k (.int a) (.int b) H Q) (Q (k a b) H) := ⟨rd_I0⟩
instance {k : Int → V} {a : Int} : Rd (rU k (.int a) H Q) (Q (k a) H) := ⟨rd_U⟩
instance : Rd (tFn sp E tA σ H Q) (tA σ H fun vs H1 => sp vs H1 Q E) := ⟨fun h => h⟩
instance {tr : TA} : Rd (tCons ta tr σ H RL) (ta σ H fun x H1 => tr σ H1 fun xs H2 => RL (x :: xs) H2) := ⟨fun h => h⟩
instance : Rd (tNil σ H RL) (RL [] H) := ⟨fun h => h⟩
instance {k : List V → Hp → VK → Prop} : Rd (tCB k tA σ H Q) (tA σ H fun vs H1 => k vs H1 Q) := ⟨fun h => h⟩
instance : Rd (tIfS cc t u (Ends.mk a b c d) σ H) (cc σ H fun z H1 => if z = true then t (Ends.mk a b c d) σ H1 else u (Ends.mk a b c d) σ H1) := ⟨fun h => h⟩
instance : Rd (tIf cc ta tb σ H Q) (cc σ H fun z H1 => if z = true then ta σ H1 Q else tb σ H1 Q) := ⟨fun h => h⟩
instance : Rd (tTest te σ H R) (te σ H (kBl R)) := ⟨fun h => h⟩
instance : Rd (tB te σ H R) (te σ H (kBl R)) := ⟨fun h => h⟩
instance {w : Bool} : Rd (kBl R (.bl w) H) (R w H) := ⟨fun h => ⟨w, rfl, h⟩⟩
instance : Rd (tDrop te (Ends.mk a b c d) σ H) (te σ H fun _ H1 => a σ H1) := ⟨fun h => h⟩
instance : Rd (tRet te (Ends.mk a b c d) σ H) (te σ H b) := ⟨fun h => h⟩
instance : Rd (tRetN (Ends.mk a b c d) σ H) (b .non H) := ⟨fun h => h⟩
instance : Rd (tBreak (Ends.mk a b c d) σ H) (c σ H) := ⟨fun h => h⟩
instance : Rd (tCont (Ends.mk a b c d) σ H) (d σ H) := ⟨fun h => h⟩
instance {a b : Int} : Rd (rEq (.int a) (.int b) H Q) (Q (.bl (decide (a = b))) H) := ⟨rd_eqI⟩
instance {a b : Int} : Rd (rNe (.int a) (.int b) H Q) (Q (.bl (decide (a ≠ b))) H) := ⟨rd_neI⟩
instance {a b : Bool} : Rd (rEq (.bl a) (.bl b) H Q) (Q (.bl (decide (a = b))) H) := ⟨rd_eqB⟩
instance {a b : Bool} : Rd (rNe (.bl a) (.bl b) H Q) (Q (.bl (decide (a ≠ b))) H) := ⟨rd_neB⟩
instance : Rd (tAnd cc dd σ H R) (cc σ H fun c H1 => if c = true then dd σ H1 R else R false H1) := ⟨fun h => h⟩
instance : Rd (tOr cc dd σ H R) (cc σ H fun c H1 => if c = true then R true H1 else dd σ H1 R) := ⟨fun h => h⟩
instance : Rd (tNot cc σ H R) (cc σ H fun c H1 => R (!c) H1) := ⟨fun h => h⟩
instance : Rd (tAndV ta tb σ H Q) (ta σ H (kAnd tb σ Q)) := ⟨fun h => h⟩
instance : Rd (tOrV ta tb σ H Q) (ta σ H (kOr tb σ Q)) := ⟨fun h => h⟩
instance : Rd (tNotV ta σ H Q) (ta σ H (kNot Q)) := ⟨fun h => h⟩
instance {w : Bool} : Rd (kAnd tb σ Q (.bl w) H) (if w = true then tb σ H Q else Q (.bl false) H) := ⟨fun h => ⟨w, rfl, h⟩⟩
instance {w : Bool} : Rd (kOr tb σ Q (.bl w) H) (if w = true then Q (.bl true) H else tb σ H Q) := ⟨fun h => ⟨w, rfl, h⟩⟩
instance {w : Bool} : Rd (kNot Q (.bl w) H) (Q (.bl (!w)) H) := ⟨fun h => ⟨w, rfl, h⟩⟩
instance : Rd (tTupB tA σ H Q) (tA σ H (kTup Q)) := ⟨fun h => h⟩
instance : Rd (tLstB tA σ H Q) (tA σ H (kLst Q)) := ⟨fun h => h⟩
instance : Rd (tRevB te σ H Q) (te σ H (kRev Q)) := ⟨fun h => h⟩
instance : Rd (tChain r r' ta tb tc σ H Q) (ta σ H fun x H1 => tb σ H1 fun y H2 => r x y H2 (kCh r' tc y σ Q)) := ⟨fun h => h⟩
instance {w : Bool} : Rd (kCh r' tc y σ Q (.bl w) H) (if w = true then tc σ H fun w' H4 => r' y w' H4 Q else Q (.bl false) H) := ⟨fun h => ⟨w, rfl, h⟩⟩
instance : Rd (tPar i j tA (Ends.mk a b c d) σ H) (tA σ H (kPar i j σ a)) := ⟨fun h => h⟩
instance {σ2 : L2.St} [s : SetI σ i (some x) σ'] [s2 : SetI σ' j (some y) σ2] : Rd (kPar i j σ N [x, y] H) (N σ2 H) := ⟨fun h => ⟨x, y, rfl, by rw [s.h, s2.h]; exact h⟩⟩
instance : Rd (tPar3 i j l tA (Ends.mk a b c d) σ H) (tA σ H (kPar3 i j l σ a)) := ⟨fun h => h⟩
instance {σ2 σ3 : L2.St} [s : SetI σ i (some x) σ'] [s2 : SetI σ' j (some y) σ2] [s3 : SetI σ2 l (some z) σ3] : Rd (kPar3 i j l σ N [x, y, z] H) (N σ3 H) := ⟨fun h => ⟨x, y, z, rfl, by rw [s.h, s2.h, s3.h]; exact h⟩⟩
instance {T : String} {k : V → List V → Hp → VK → Prop} : Rd (tBM K T k te tA σ H Q) (te σ H (kBM K T k σ tA Q)) := ⟨fun h => h⟩
instance [o : OB H p (.lst xs)] {k : V → List V → Hp → VK → Prop} : Rd (kBM K "list" k σ tA Q (.ref p) H) (tA σ H fun xs H2 => k (.ref p) xs H2 Q) := ⟨rd_kBM⟩
instance {T : String} {k : V → List V → Hp → VK → Prop} : Rd (tBM0 K T k te σ H Q) (te σ H (kBM0 K T k Q)) := ⟨fun h => h⟩
instance [o : OB H p (.lst xs)] {k : V → List V → Hp → VK → Prop} : Rd (kBM0 K "list" k Q (.ref p) H) (k (.ref p) [] H Q) := ⟨rd_kBM0⟩
instance (priority := 1100) [o : OB H p (.lst xs)] {ns : List Int} [e : ILs xs ns] : Rd (rLenB [.ref p] H Q) (Q (.int (ns.length : Int)) H) := ⟨rd_lenI⟩
instance [o : OB H p (.lst xs)] : Rd (rLenB [.ref p] H Q) (Q (.int (xs.length : Int)) H) := ⟨rd_len⟩
instance [o : OB H p (.tup xs)] : Rd (rLenTB [.ref p] H Q) (Q (.int (xs.length : Int)) H) := ⟨rd_lenT⟩
instance {ns : List Int} [o : IR K H p ns] : Rd (rLenRB K [.ref p] H Q) (Q (.int (ns.length : Int)) H) := ⟨rd_lenR⟩
instance {bs : List Bool} [o : OB H p (.lst xs)] [e : BLs xs bs] : Rd (rAllB [.ref p] H Q) (Q (.bl (bs.all id)) H) := ⟨rd_allB⟩
instance {bs : List Bool} [o : OB H p (.lst xs)] [e : BLs xs bs] : Rd (rAnyB [.ref p] H Q) (Q (.bl (bs.any id)) H) := ⟨rd_anyB⟩
instance {ns : List Int} [o : OB H p (.lst xs)] [e : ILs xs ns] : Rd (rSumB [.ref p] H Q) (Q (.int ns.sum) H) := ⟨rd_sumB⟩
class EqD (d e : PyData) (s : outParam Bool) : Prop where h : PyData.eqv d e = s
instance {ns ms : List Int} : EqD (.list (ns.map PyData.int)) (.list (ms.map PyData.int)) (decide (ns = ms)) := ⟨eqv_lst ns ms⟩
instance {a b c d : Int} : EqD (.tuple [.int a, .int b]) (.tuple [.int c, .int d]) (decide (a = c ∧ b = d)) := ⟨by
  simp only [PyData.eqv, PyData.eqvAll, Bool.and_true]
  rw [Bool.eq_iff_iff]
  simp⟩
instance {d e : PyData} {s : Bool} [o : DP K H x d] [o' : DP K H y e] [k : EqD d e s] : Rd (rEqB K x y H Q) (Q (.bl s) H) := ⟨fun h => ⟨d, e, o, o', by rw [k.h]; exact h⟩⟩
instance {d e : PyData} {s : Bool} [o : DP K H x d] [o' : DP K H y e] [k : EqD d e s] : Rd (rNeB K x y H Q) (Q (.bl (!s)) H) := ⟨fun h => ⟨d, e, o, o', by rw [k.h]; exact h⟩⟩
instance {w : Bool} {S T : String} [o : TY K H x (.type S)] [e : KT S T w] : Rd (rIsiB K [x, .ty T] H Q) (Q (.bl w) H) := ⟨rd_isi⟩
instance {w : Bool} {D C : Addr} [o : TY K H x (.ref D)] [e : KitI K D C w] : Rd (rIsiB K [x, .ref C] H Q) (Q (.bl w) H) := ⟨rd_isiC⟩
instance {t : TGs} {N : L2.St → Hp → Prop} [o : OB H p (.tup [x, y])] : Rd (gTupB 2 t (.ref p) σ H N) (t [x, y] σ H N) := ⟨fun h => ⟨p, _, rfl, o, rfl, h⟩⟩
instance {k : TGs} : Rd (gCons g k (v :: vs) σ H N) (g v σ H fun σ' H' => k vs σ' H' N) := ⟨fun h => ⟨v, vs, rfl, h⟩⟩
instance : Rd (gNil [] σ H N) (N σ H) := ⟨fun h => ⟨rfl, h⟩⟩
instance : Rd (tIsN ta σ H Q) (ta σ H fun x H1 => Q (.bl (decide (x = .non))) H1) := ⟨fun h => h⟩
instance : Rd (tFld K ta f σ H Q) (ta σ H (kFld K f Q)) := ⟨fun h => h⟩
instance [o : OB H p (.ins C dx fs)] [c : OwnI K C] [n : NoaI K C f] [l : LkI fs f v] : Rd (kFld K f Q (.ref p) H) (Q v H) := ⟨rd_kFld⟩
instance : Rd (sFld K ta tv f (Ends.mk a b c d) σ H) (tv σ H fun y H1 => ta σ H1 (kSF K f y (Ends.mk a b c d) σ)) := ⟨fun h => h⟩
instance : Rd (tMk C sp E tA σ H Q) (tA σ H (kMk C sp E Q)) := ⟨fun h => h⟩
instance : Rd (tMt C m sp E ta tA σ H Q) (ta σ H (kMt C m sp E tA σ Q)) := ⟨fun h => h⟩
instance : Rd (tLR3 tA σ H Q) (tA σ H (kLR3 Q)) := ⟨fun h => h⟩
instance {k : V → Option Int → Option Int → Hp → VK → Prop} {tl th : TO} : Rd (tSl k te tl th σ H Q) (te σ H fun x H1 => tl σ H1 fun l H2 => th σ H2 fun u H3 => k x l u H3 Q) := ⟨fun h => h⟩
instance : Rd (tNoPart σ H ROp) (ROp none H) := ⟨fun h => h⟩
instance : Rd (tPart te σ H ROp) (te σ H (kPart ROp)) := ⟨fun h => h⟩
instance {k : Int} : Rd (kPart ROp (.int k) H) (ROp (some k) H) := ⟨fun h => ⟨k, rfl, h⟩⟩
instance {wi : TI} : Rd (tFor wi g t (Ends.mk a b c d) σ H) (wi σ H (kFor g t (Ends.mk a b c d) σ)) := ⟨fun h => h⟩
instance {wi : TI} {tt : TT} {ws : List Nat} : Rd (tLc wi g tt te ws σ H Q) (wi σ H (kLc g tt te ws σ Q)) := ⟨fun h => h⟩
instance : Rd (iTup K te σ H RI) (te σ H (kItT K RI)) := ⟨fun h => h⟩
instance : Rd (iList K te σ H RI) (te σ H (kItL K RI)) := ⟨fun h => h⟩
instance [o : OB H p (.tup xs)] : Rd (kItT K RI (.ref p) H) (RI (Itt K p) H) := ⟨rd_kItT⟩
instance [o : OB H p (.lst xs)] : Rd (kItL K RI (.ref p) H) (RI (Itl K p) H) := ⟨rd_kItL⟩
instance (priority := 100) {ns : List Int} [o : IR K H p ns] : Rd (kItL K RI (.ref p) H) (RI (Itl K p) H) := ⟨rd_kItR⟩
instance : Rd (iRng1 tA σ H RI) (tA σ H (kR1 RI)) := ⟨fun h => h⟩
instance : Rd (iRng2 tA σ H RI) (tA σ H (kR2 RI)) := ⟨fun h => h⟩
instance : Rd (iRng3 tA σ H RI) (tA σ H (kR3 RI)) := ⟨fun h => h⟩
instance : Rd (iEnum K tA σ H RI) (tA σ H (kEn K RI)) := ⟨fun h => h⟩
instance : Rd (iZip K tA σ H RI) (tA σ H (kZi K RI)) := ⟨fun h => h⟩
instance [o : OB H p (.lst xs)] : Rd (kEn K RI [.ref p] H) (RI (Ite K p) H) := ⟨rd_kEn⟩
instance [o : OB H p (.lst xs)] [o' : OB H q (.lst ys)] : Rd (kZi K RI [.ref p, .ref q] H) (RI (Itz K p q) H) := ⟨rd_kZi⟩
instance : Rd (tYes σ H R) (R true H) := ⟨fun h => h⟩
instance {a b : Int} : Rd (rMax2B [.int a, .int b] H Q) (Q (.int (max a b)) H) := ⟨rd_max2⟩
instance {a b : Int} : Rd (rMin2B [.int a, .int b] H Q) (Q (.int (min a b)) H) := ⟨rd_min2⟩
instance {a : Int} : Rd (rAbsB [.int a] H Q) (Q (.int (a.natAbs : Int)) H) := ⟨rd_abs⟩
instance : Rd (if true = true then A else B) A := ⟨fun h => by rw [if_pos rfl]; exact h⟩
instance : Rd (if false = true then A else B) B := ⟨fun h => by rw [if_neg Bool.false_ne_true]; exact h⟩
instance : Rd (if (!true) = true then A else B) B := ⟨fun h => rd_nF rfl h⟩
instance : Rd (if (!false) = true then A else B) A := ⟨fun h => rd_nT rfl h⟩
instance [o : OB H p (.tup xs)] {k : Int} [at_ : AtI xs k v] : Rd (rIxTB (.ref p) (.int k) H Q) (Q v H) := ⟨rd_ixT at_.h⟩
instance : Rd (kLst Q [] H) (kNew Q (.lst []) H) := ⟨fun h => ⟨by simp, h⟩⟩
instance : Rd (kLst Q [x] H) (kNew Q (.lst [x]) H) := ⟨fun h => ⟨by simp, h⟩⟩
instance : Rd (kTup Q [x, y] H) (kNew Q (.tup [x, y]) H) := ⟨fun h => ⟨by simp, h⟩⟩
end
/-! ### more steps -/
def kSet (i : Nat) (σ : L2.St) (a : L2.St → Hp → Prop) : VK := fun z H2 => a (σ.set i (some z)) H2
section
variable {K : PySem.W.Frag} {σ σ' : L2.St} {H : Hp} {Q : VK} {te : TE} {x y v z : V} {i : Nat} {p q : Addr} {xs ys vs : List V} {a : L2.St → Hp → Prop} {b : VK} {c d : L2.St → Hp → Prop}
instance {ti : TIp} [s : SlotI σ i x] : Rd (tAug i te ti (Ends.mk a b c d) σ H) (te σ H fun y H1 => ti x y H1 (kSet i σ a)) := ⟨fun h => ⟨x, s.h, h⟩⟩
instance [s : SetI σ i (some z) σ'] : Rd (kSet i σ a z H) (a σ' H) := ⟨fun h => by
  show a (σ.set i (some z)) H
  rw [s.h]; exact h⟩
instance {k : Int → Int → Int} {m n : Int} : Rd (ipI k (.int m) (.int n) H Q) (Q (.int (k m n)) H) := ⟨fun h => ⟨m, n, rfl, rfl, h⟩⟩
instance {m n : Bool} : Rd (rIsB (.bl m) (.bl n) H Q) (Q (.bl (decide (m = n))) H) := ⟨fun h => ⟨m, n, rfl, rfl, h⟩⟩
instance {m n : Bool} : Rd (rNotB (.bl m) (.bl n) H Q) (Q (.bl (!decide (m = n))) H) := ⟨fun h => ⟨m, n, rfl, rfl, h⟩⟩
theorem inV_int (z : Int) : ∀ ns : List Int, inV (.int z) (ns.map V.int) = decide (z ∈ ns)
  | [] => rfl
  | n :: r => by
    have ih := inV_int z r
    unfold inV at ih ⊢
    rw [List.map_cons, List.any_cons, ih]
    show ((n == z) || decide (z ∈ r)) = decide (z ∈ n :: r)
    rw [Bool.eq_iff_iff, Bool.or_eq_true, beq_iff_eq, decide_eq_true_iff, decide_eq_true_iff, List.mem_cons]
    exact ⟨fun h => h.elim (fun e => .inl e.symm) .inr, fun h => h.elim (fun e => .inl e.symm) .inr⟩
theorem flat_ints : ∀ ns : List Int, (ns.map V.int).all flatV = true
  | [] => rfl
  | _ :: r => by rw [List.map_cons, List.all_cons, flat_ints r]; rfl
instance {z : Int} {ns : List Int} [o : OB H p (.tup xs)] [e : ILs xs ns] : Rd (rIn K false (.int z) (.ref p) H Q) (Q (.bl (decide (z ∈ ns))) H) := ⟨fun h => ⟨p, xs, rfl, .inr o.st, rfl, by rw [e.e]; exact flat_ints ns, by rw [e.e, inV_int]; exact h⟩⟩
instance {z : Int} {ns : List Int} [o : OB H p (.tup xs)] [e : ILs xs ns] : Rd (rIn K true (.int z) (.ref p) H Q) (Q (.bl (!decide (z ∈ ns))) H) := ⟨fun h => ⟨p, xs, rfl, .inr o.st, rfl, by rw [e.e]; exact flat_ints ns, by rw [e.e, inV_int]; exact h⟩⟩
instance (priority := 900) {z : Int} {ns : List Int} [o : OB H p (.lst xs)] [e : ILs xs ns] : Rd (rIn K false (.int z) (.ref p) H Q) (Q (.bl (decide (z ∈ ns))) H) := ⟨fun h => ⟨p, xs, rfl, .inl o.sq, rfl, by rw [e.e]; exact flat_ints ns, by rw [e.e, inV_int]; exact h⟩⟩
instance (priority := 900) {z : Int} {ns : List Int} [o : OB H p (.lst xs)] [e : ILs xs ns] : Rd (rIn K true (.int z) (.ref p) H Q) (Q (.bl (!decide (z ∈ ns))) H) := ⟨fun h => ⟨p, xs, rfl, .inl o.sq, rfl, by rw [e.e]; exact flat_ints ns, by rw [e.e, inV_int]; exact h⟩⟩
end
/-! ### data of some depth -/
section
variable {K : PySem.W.Frag} {H : Hp} {p q r : Addr} {xs ys : List V}
theorem lay_map {α : Type} (f : α → PyData) (hf : ∀ x, (f x).canLay0 = true) : ∀ l : List α, PyData.canLayAll0 (l.map f) = true
  | [] => by simp [PyData.canLayAll0]
  | n :: r => by rw [List.map_cons, PyData.canLayAll0, hf n, lay_map f hf r]; rfl
theorem dep_map {α : Type} (f : α → PyData) (n : Nat) (hf : ∀ x, (f x).depth ≤ n) : ∀ l : List α, PyData.depthAll (l.map f) ≤ n
  | [] => by simp [PyData.depthAll]
  | m :: r => by
    have := hf m
    have := dep_map f n hf r
    rw [List.map_cons, PyData.depthAll]
    omega
theorem eqv_map {α : Type} [DecidableEq α] (f : α → PyData) (hf : ∀ x y, PyData.eqv (f x) (f y) = decide (x = y)) : ∀ l m : List α, PyData.eqvAll (l.map f) (m.map f) = decide (l = m)
  | [], [] => by simp [PyData.eqvAll]
  | [], _ :: _ => by simp [PyData.eqvAll]
  | _ :: _, [] => by simp [PyData.eqvAll]
  | n :: r, m :: q => by
    rw [List.map_cons, List.map_cons, PyData.eqvAll, hf, eqv_map f hf r q, Bool.eq_iff_iff]
    simp
theorem sh_list {α : Type} (f : α → PyData) (n : Nat) (h1 : ∀ x, (f x).canLay0 = true) (h2 : ∀ x, (f x).depth ≤ n) (hn : n < 64) (l : List α) : SeqAt.shaped (.list (l.map f)) = true := by
  have := dep_map f n h2 l
  unfold SeqAt.shaped
  rw [PyData.canLay0, PyData.depth, lay_map f h1 l, Bool.true_and, decide_eq_true_iff]
  omega
def dI (ns : List Int) : PyData := .list (ns.map PyData.int)
def dP (x : Int × Int) : PyData := .tuple [.int x.1, .int x.2]
theorem dI_lay (ns : List Int) : (dI ns).canLay0 = true := by
  unfold dI
  rw [PyData.canLay0]
  exact lay_ints ns
theorem dI_dep (ns : List Int) : (dI ns).depth ≤ 1 := by
  unfold dI
  rw [PyData.depth, dep_ints ns]
  exact Nat.le_refl 1
theorem dP_lay (x : Int × Int) : (dP x).canLay0 = true := rfl
theorem dP_dep (x : Int × Int) : (dP x).depth ≤ 1 := Nat.le_refl 1
theorem dP_eqv (x y : Int × Int) : PyData.eqv (dP x) (dP y) = decide (x = y) := by
  obtain ⟨a, b⟩ := x
  obtain ⟨c, d⟩ := y
  unfold dP
  simp only [PyData.eqv, PyData.eqvAll, Bool.and_true]
  rw [Bool.eq_iff_iff]
  simp
theorem dI_eqv (ns ms : List Int) : PyData.eqv (dI ns) (dI ms) = decide (ns = ms) := eqv_lst ns ms
theorem fa_dp {α : Type} {R : V → α → Prop} {f : α → PyData} (hf : ∀ v x, R v x → Dp K H v (f x)) {l : List α} (h : Fa R xs l) : DpAll K H xs (l.map f) := by
  induction h with
  | nil => exact .nil
  | cons a _ ih => exact .cons (hf _ _ a) ih
instance dpLL {nss : List (List Int)} [o : OB H p (.lst xs)] [e : LLs H xs nss] : DP K H (.ref p) (.list (nss.map dI)) := ⟨.lst o.sq (fa_dp (fun v ns ⟨q, e, o⟩ => by rw [e]; exact .lst o.sq (dpInts ns)) e.h), sh_list dI 1 dI_lay dI_dep (by decide) nss⟩
instance {nss mss : List (List Int)} : EqD (.list (nss.map dI)) (.list (mss.map dI)) (decide (nss = mss)) := ⟨by
  show PyData.eqvAll _ _ = _
  exact eqv_map dI dI_eqv nss mss⟩
/-- a pair of ints stands at v -/
def PI2 (H : Hp) (v : V) (x : Int × Int) : Prop := ∃ q, v = .ref q ∧ OB H q (.tup [.int x.1, .int x.2])
class TPs (H : Hp) (xs : List V) (ps : outParam (List (Int × Int))) : Prop where h : Fa (PI2 H) xs ps
instance tpNil {H} : TPs H [] [] := ⟨.nil⟩
instance tpCons {H q xs m n ps} [o : OB H q (.tup [.int m, .int n])] [r : TPs H xs ps] : TPs H (.ref q :: xs) ((m, n) :: ps) := ⟨.cons ⟨q, rfl, o⟩ r.h⟩
instance (priority := 200) TPs.mono {H G : Hp} {xs : List V} {ps : List (Int × Int)} [a : SM H G] [b : TPs G xs ps] : TPs H xs ps := ⟨b.h.imp fun _ _ ⟨q, e, o⟩ => ⟨q, e, ⟨a.s _ _ o.h⟩⟩⟩
instance dpTP {ps : List (Int × Int)} [o : OB H p (.lst xs)] [e : TPs H xs ps] : DP K H (.ref p) (.list (ps.map dP)) := ⟨.lst o.sq (fa_dp (fun v x ⟨q, e, o⟩ => by rw [e]; exact .tup o.st (.cons (.int _) (.cons (.int _) .nil))) e.h), sh_list dP 1 dP_lay dP_dep (by decide) ps⟩
instance {ps qs : List (Int × Int)} : EqD (.list (ps.map dP)) (.list (qs.map dP)) (decide (ps = qs)) := ⟨by
  show PyData.eqvAll _ _ = _
  exact eqv_map dP dP_eqv ps qs⟩
instance dpT2L {ns ms : List Int} [o : OB H p (.tup [.ref q, .ref r])] [a : OB H q (.lst xs)] [e : ILs xs ns] [b : OB H r (.lst ys)] [f : ILs ys ms] : DP K H (.ref p) (.tuple [dI ns, dI ms]) :=
  ⟨.tup o.st (.cons (.lst a.sq (by rw [e.e]; exact dpInts ns)) (.cons (.lst b.sq (by rw [f.e]; exact dpInts ms)) .nil)), by
    have h1 := dI_dep ns
    have h2 := dI_dep ms
    unfold SeqAt.shaped
    rw [PyData.canLay0, PyData.canLayAll0, PyData.canLayAll0, PyData.canLayAll0, dI_lay, dI_lay, PyData.depth, PyData.depthAll, PyData.depthAll, PyData.depthAll, Bool.true_and, Bool.true_and, Bool.true_and, decide_eq_true_iff]
    omega⟩
instance {ns ms us vs : List Int} : EqD (.tuple [dI ns, dI ms]) (.tuple [dI us, dI vs]) (decide (ns = us ∧ ms = vs)) := ⟨by
  simp only [PyData.eqv, PyData.eqvAll, Bool.and_true, dI_eqv]
  rw [Bool.eq_iff_iff]
  simp⟩
theorem dpBools : ∀ bs : List Bool, DpAll K H (bs.map V.bl) (bs.map PyData.bool)
  | [] => .nil
  | b :: r => .cons (.bl b) (dpBools r)
instance dpBLs {bs : List Bool} [o : OB H p (.lst xs)] [e : BLs xs bs] : DP K H (.ref p) (.list (bs.map PyData.bool)) := ⟨.lst o.sq (by rw [e.e]; exact dpBools bs), sh_list PyData.bool 0 (fun _ => by rw [PyData.canLay0]) (fun _ => by rw [PyData.depth]; exact Nat.le_refl 0) (by decide) bs⟩
instance {bs cs : List Bool} : EqD (.list (bs.map PyData.bool)) (.list (cs.map PyData.bool)) (decide (bs = cs)) := ⟨by
  show PyData.eqvAll _ _ = _
  exact eqv_map PyData.bool (fun x y => by rw [PyData.eqv]; cases x <;> cases y <;> rfl) bs cs⟩
end
/-! ### stores into lists, counts, greatest ones -/
section
variable {X : Cx} {K : PySem.W.Frag} {σ : L2.St} {H : Hp} {Q : VK} {x y v : V} {p : Addr} {xs : List V} {ns : List Int} {ta tb : TE} {N : L2.St → Hp → Prop}
def rCntB : V → List V → Hp → VK → Prop := fun x vs H Q => ∃ (p : Addr) (bs : List Bool) (k : Bool), x = .ref p ∧ vs = [.bl k] ∧ OB H p (.lst (bs.map V.bl)) ∧ Q (.int ((bs.count k : Nat) : Int)) H
def eqkb (k : Bool) (v : Value) : Bool := match v with
  | .bool n => n == k
  | _ => false
theorem eqkb_at {k : Bool} {A : Around} {s : Shared} : ∀ {bs : List Bool} {us : List Value}, Vals (bs.map V.bl) us → ∀ y ∈ us, SeqAt.EqAt A s y (.bool k) (eqkb k y)
  | [], _, h => fun y hy => by cases h; cases hy
  | b :: bs, _, h => fun y hy => by
    cases h with
    | cons a r =>
      rcases List.mem_cons.mp hy with e | e
      · rw [e, show _ = Value.bool b from a]
        exact SeqAt.EqAt.bool_bool b k
      · exact eqkb_at r y e
theorem eqkb_count {k : Bool} : ∀ {bs : List Bool} {us : List Value}, Vals (bs.map V.bl) us → us.countP (eqkb k) = bs.count k
  | [], _, h => by cases h; rfl
  | b :: bs, _, h => by
    cases h with
    | cons a r =>
      rw [List.countP_cons, List.count_cons, eqkb_count r, show _ = Value.bool b from a]
      rfl
theorem mt_cntB : MtR X "list.count" rCntB := by
  intro pins s σ H x xs v us Q I rx rxs h
  obtain ⟨p, bs, k, rfl, rfl, hs, q⟩ := h
  cases rx
  obtain ⟨u, rfl, ru⟩ := rxs.one
  cases (show u = Value.bool k from ru)
  obtain ⟨its, rv, ⟨⟨cls, dd, data, sl⟩, n, ho, hc, hdn, hd⟩, hlen⟩ := I.list (OB.sq (K := X.K) hs)
  simp only at hc hd
  subst hc hd
  refine call_meets PySem.F.slot_list_count ⟨_, ho, rfl⟩ PySem.F.entry_list_count (PySem.F.args_list_count_2 _ _)
    (SeqAt.list_countAt p its.toArray n dd sl (.bool k) (eqkb k)) ⟨ho, fun y hy => eqkb_at rv y (by simpa using hy), ?_⟩
  have ec : its.toArray.toList.countP (eqkb k) = bs.count k := eqkb_count rv
  refine ⟨.int (bs.count k : Nat), H, I.tok _, ⟨s.toks, ?_⟩, q⟩
  show Value.int ((its.toArray.toList.countP (eqkb k) : Nat) : Int) s.toks = Value.int ((bs.count k : Nat) : Int) s.toks
  rw [ec]
instance {bs : List Bool} {k : Bool} [o : OB H p (.lst xs)] [e : BLs xs bs] : Rd (rCntB (.ref p) [.bl k] H Q) (Q (.int ((bs.count k : Nat) : Int)) H) := ⟨fun h => ⟨p, bs, k, rfl, rfl, by rw [← e.e]; exact o, h⟩⟩
def rMaxLB : List V → Hp → VK → Prop := fun vs H Q => ∃ (a : Addr) (ns : List Int), vs = [V.ref a] ∧ OB H a (.lst (ns.map V.int)) ∧ 0 < ns.length ∧ ∀ m, m ∈ ns → (∀ y, y ∈ ns → y ≤ m) → Q (.int m) H
theorem cr_maxLB (hc : X.calm = true) : CallR X (.builtin "max") rMaxLB := cr_weak (cr_max hc) fun vs H Q ⟨p, ns, e, o, n, q⟩ => ⟨p, ns, e, o.sq, n, q⟩
theorem rd_maxL [o : OB H p (.lst xs)] [e : ILs xs ns] (n : 0 < ns.length) (q : ∀ m, m ∈ ns → (∀ y, y ∈ ns → y ≤ m) → Q (.int m) H) : rMaxLB [.ref p] H Q := ⟨p, ns, rfl, ob_ints e o, n, q⟩
def rSetB : V → V → V → Hp → (Hp → Prop) → Prop := fun o i v H Q => ∃ p xs k j, o = .ref p ∧ i = .int k ∧ OB H p (.lst xs) ∧ ixN xs.length k = some j ∧ ∀ H', MU H' H p → OB H' p (.lst (xs.set j v)) → Q H'
theorem set_listB : PSet X rSetB := fun pins s σ H o i v ov iv u Q I ro ri rv ⟨p, xs, k, j, e1, e2, ob, h, q⟩ => set_list pins s σ H o i v ov iv u Q I ro ri rv ⟨p, xs, k, j, e1, e2, ob.h, h, q _ MU.new OB.new⟩
theorem rd_setL {k : Int} {j : Nat} {R : Hp → Prop} [o : OB H p (.lst xs)] (h : ixN xs.length k = some j) (q : ∀ H', MU H' H p → OB H' p (.lst (xs.set j v)) → R H') : rSetB (.ref p) (.int k) v H R := ⟨p, xs, k, j, rfl, rfl, o, h, q⟩
instance {t : V → V → V → Hp → (Hp → Prop) → Prop} : Rd (gSub ta tb t v σ H N) (ta σ H fun o H1 => tb σ H1 fun i H2 => t o i v H2 fun H3 => N σ H3) := ⟨fun h => h⟩
instance ilSet {z : Int} {j : Nat} [e : ILs xs ns] : ILs (xs.set j (.int z)) (ns.set j z) := ⟨by rw [e.e, List.map_set]⟩
end
theorem frmu0 {H G : Hp} {p q : Addr} {o : HO} (f : FR0 H q) (m : MU H G p) (x : OB H p o) : FR0 G q := ⟨by
  cases e : G q with
  | none => rfl
  | some u =>
    by_cases z : q = p
    · subst z
      have := x.h
      rw [f.h] at this
      cases this
    · have := m.s q u z e
      rw [f.h] at this
      cases this⟩
theorem op_inB {X : Cx} {K : PySem.W.Frag} (hK : X.K = K) : OpR X (compareOp .In) (rIn K false) := by
  subst hK
  exact op_in_seq
theorem op_notInB {X : Cx} {K : PySem.W.Frag} (hK : X.K = K) : OpR X (compareOp .NotIn) (rIn K true) := by
  subst hK
  exact op_notIn_seq
instance {a b : Int} : EqD (.int a) (.int b) (decide (a = b)) := ⟨by
  rw [PyData.eqv, Bool.eq_iff_iff]
  simp⟩
instance {a b : Bool} : EqD (.bool a) (.bool b) (decide (a = b)) := ⟨by
  rw [PyData.eqv, Bool.eq_iff_iff]
  simp⟩
/-- a list of ints stands at v, not at p -/
def LIn (p : Addr) (H : Hp) (v : V) (ns : List Int) : Prop := ∃ q, v = .ref q ∧ NE q p ∧ OB H q (.lst (ns.map V.int))
theorem LIn.mut {H G : Hp} {v : V} {ns : List Int} {p : Addr} (m : MU H G p) (h : LIn p G v ns) : LIn p H v ns := by
  obtain ⟨q, e, n, o⟩ := h
  exact ⟨q, e, n, ⟨m.s _ _ n.h o.h⟩⟩
theorem LIn.mono {H G : Hp} {v : V} {ns : List Int} {p : Addr} (m : SX H G) (h : LIn p G v ns) : LIn p H v ns := by
  obtain ⟨q, e, n, o⟩ := h
  exact ⟨q, e, n, ⟨m.s _ _ o.h⟩⟩
theorem LIn.li {H : Hp} {v : V} {ns : List Int} {p : Addr} (h : LIn p H v ns) : LI H v ns := by
  obtain ⟨q, e, n, o⟩ := h
  exact ⟨q, e, o⟩
theorem Fa.map2 {α β γ : Type} {R : α → γ → Prop} {f : β → γ} {xs : List α} {ys : List β} (h : Fa (fun x y => R x (f y)) xs ys) : Fa R xs (ys.map f) := by
  induction h with
  | nil => exact .nil
  | cons a _ ih => exact .cons a ih
theorem rd_ixTx {H : Hp} {Q : VK} {p : Addr} {xs : List V} (P : V → Prop) {z : Int} [o : OB H p (.tup xs)] (h : ∃ v, atI xs z = some v ∧ P v) (q : ∀ v, P v → Q v H) : rIxTB (.ref p) (.int z) H Q := by
  obtain ⟨v, h1, h2⟩ := h
  exact rd_ixT h1 (q v h2)
theorem rd_ifC {c : Prop} [Decidable c] {m n : Int} {σ : L2.St} {H : Hp} {Q : VK} (h : Q (.int (if c then m else n)) H) : if decide c = true then tC (.int m) σ H Q else tC (.int n) σ H Q := by
  by_cases z : c
  · rw [if_pos z] at h
    exact rd_T (decide_eq_true z) h
  · rw [if_neg z] at h
    exact rd_F (decide_eq_false z) h
/-! ### methods of objects -/
class NLk (fs : List (Str × V)) (m : Str) : Prop where h : fs.lookup m = none
instance : NeS "shows" "row" := ⟨by decide +kernel⟩
instance : NeS "shows" "carries" := ⟨by decide +kernel⟩
instance : NeS "shows" "number" := ⟨by decide +kernel⟩
instance : NeS "shows" "place" := ⟨by decide +kernel⟩
instance : NeS "shows" "left" := ⟨by decide +kernel⟩
instance {m : Str} : NLk [] m := ⟨rfl⟩
instance {m g : Str} {w : V} {r : List (Str × V)} [n : NeS m g] [k : NLk r m] : NLk ((g, w) :: r) m := ⟨by rw [List.lookup_cons, n.h]; exact k.h⟩
section
variable {X : Cx} {K : PySem.W.Frag} {σ : L2.St} {H : Hp} {Q : VK} {a C D dx : Addr} {fs : List (Str × V)} {m : Str} {sp sp2 : Sp} {E : XK} {t : TA} {e : Expr} {i : Nat} {v : V}
instance [o : OB H a (.ins C dx fs)] [n : NLk fs m] : Rd (kMt C m sp E t σ Q (.ref a) H) (t σ H fun vs H2 => sp (.ref a :: vs) H2 Q E) := ⟨fun h => rd_kMt n.h h⟩
def kMt2 (C D : Addr) (m : Str) (sp sp2 : Sp) (E : XK) (t : TA) (σ : L2.St) (Q : VK) : VK := fun v H => kMt C m sp E t σ Q v H ∨ kMt D m sp2 E t σ Q v H
def tMt2 (C D : Addr) (m : Str) (sp sp2 : Sp) (E : XK) (i : Nat) (t : TA) : TE := fun σ H Q => ∃ v, σ[i]? = some (some v) ∧ kMt2 C D m sp sp2 E t σ Q v H
theorem mt_of2 (h1 : PE X e (tMt C m sp E (tVar i) t)) (h2 : PE X e (tMt D m sp2 E (tVar i) t)) : PE X e (tMt2 C D m sp sp2 E i t) := ⟨fun pins s σ H Q I h => by
  obtain ⟨v, e, h⟩ := h
  rcases h with h | h
  · exact h1.run pins s σ H Q I ⟨v, e, h⟩
  · exact h2.run pins s σ H Q I ⟨v, e, h⟩⟩
instance [s : SlotI σ i v] : Rd (tMt2 C D m sp sp2 E i t σ H Q) (kMt2 C D m sp sp2 E t σ Q v H) := ⟨fun h => ⟨v, s.h, h⟩⟩
instance [o : OB H a (.ins C dx fs)] [n : NLk fs m] : Rd (kMt2 C D m sp sp2 E t σ Q (.ref a) H) (t σ H fun vs H2 => sp (.ref a :: vs) H2 Q E) := ⟨fun h => .inl (rd_kMt n.h h)⟩
instance (priority := 900) [o : OB H a (.ins D dx fs)] [n : NLk fs m] : Rd (kMt2 C D m sp sp2 E t σ Q (.ref a) H) (t σ H fun vs H2 => sp2 (.ref a :: vs) H2 Q E) := ⟨fun h => .inr (rd_kMt n.h h)⟩
theorem at_last {ns : List Int} (h : 0 < ns.length) : atI (ns.map V.int) (-1) = some (.int (ns.getLast?.getD 0)) := by
  have hne : ns ≠ [] := fun e => by rw [e] at h; cases h
  have e : ns = ns.dropLast ++ [ns.getLast hne] := (List.dropLast_concat_getLast hne).symm
  have e2 : ns.getLast?.getD 0 = ns.getLast hne := by rw [List.getLast?_eq_some_getLast hne]; rfl
  rw [e2]
  generalize ns.getLast hne = u at e
  generalize ns.dropLast = r at e
  subst e
  rw [List.map_append]
  simp only [atI, ixN, List.map_cons, List.map_nil, List.length_append, List.length_cons, List.length_nil]
  rw [if_neg (by decide), if_pos (by omega)]
  simp only [Option.bind_some]
  rw [List.getElem?_append_right (by omega)]
  have e : ((-1 : Int) + (((r.map V.int).length + (0 + 1) : Nat) : Int)).toNat - (r.map V.int).length = 0 := by omega
  rw [e]
  rfl
theorem rd_ixLL {p : Addr} {xs : List V} {ns : List Int} [o : OB H p (.lst xs)] [e : ILs xs ns] (h : 0 < ns.length) (q : Q (.int (ns.getLast?.getD 0)) H) : rIxLB (.ref p) (.int (-1)) H Q := rd_ixL (by rw [e.e]; exact at_last h) q
end
theorem rd_setE {H : Hp} {p : Addr} {r : List Int} {y z : Int} {R : Hp → Prop} [o : OB H p (.lst ((r ++ [y]).map V.int))] (q : ∀ H', MU H' H p → OB H' p (.lst ((r ++ [z]).map V.int)) → R H') : rSetB (.ref p) (.int (-1)) (.int z) H R := by
  refine rd_setL (j := r.length) ?_ fun H' m o => q H' m ?_
  · rw [List.length_map, List.length_append]
    simp only [ixN, List.length_cons, List.length_nil]
    rw [if_neg (by decide), if_pos (by omega)]
    congr 1
    omega
  · have e : ((r ++ [y]).map V.int).set r.length (.int z) = (r ++ [z]).map V.int := by
      rw [List.map_append, List.map_append, List.set_append_right _ _ (by rw [List.length_map]; exact Nat.le_refl _), List.length_map, Nat.sub_self]
      rfl
    rw [← e]
    exact o
theorem dec_swap {A B : Prop} [Decidable A] [Decidable B] (h : A ↔ B) : decide (decide A = decide B) = true := decide_eq_true (by rw [Bool.eq_iff_iff, decide_eq_true_iff, decide_eq_true_iff]; exact h)
theorem rd_popI {H : Hp} {Q : VK} {p : Addr} {xs : List V} {ns : List Int} [o : OB H p (.lst xs)] [e : ILs xs ns] (h : 0 < ns.length) (k : ∀ v H', MU H' H p → OB H' p (.lst (ns.dropLast.map V.int)) → Q v H') : rPopB (.ref p) [] H Q := by
  have ee := e.e
  subst ee
  refine rd_pop (v := .int (ns[ns.length - 1]'(by omega))) ?_ fun H' m o => k _ H' m (by rw [List.map_dropLast]; exact o)
  rw [List.length_map, List.getElem?_map, List.getElem?_eq_getElem (by omega)]
  rfl
theorem rd_mt2 {C D : Addr} {m : Str} {sp sp2 : Sp} {E : XK} {i : Nat} {t : TA} {σ : L2.St} {H : Hp} {Q : VK} {v : V} (h : σ[i]? = some (some v)) (q : kMt2 C D m sp sp2 E t σ Q v H) : tMt2 C D m sp sp2 E i t σ H Q := ⟨v, h, q⟩
/-! ### str of a list of ints; defs that want to know that no repr is under way -/
theorem showable_ints : ∀ ns : List Int, (∀ n ∈ ns, n.natAbs < 2 ^ 1900) → PyData.showableAll (ns.map PyData.int) = true
  | [], _ => by rw [List.map_nil, PyData.showableAll]
  | n :: r, h => by
    have h1 := h n (by simp)
    rw [List.map_cons, PyData.showableAll, PyData.showable, showable_ints r fun m hm => h m (by simp [hm]), Bool.and_true, decide_eq_true_iff]
    rcases Nat.eq_zero_or_pos n.natAbs with z | z
    · rw [z]; decide
    · have := (Nat.log2_lt (by omega)).mpr h1
      omega
theorem nodict_ints : ∀ ns : List Int, PyData.hasDictAll (ns.map PyData.int) = false
  | [] => by rw [List.map_nil, PyData.hasDictAll]
  | n :: r => by rw [List.map_cons, PyData.hasDictAll, PyData.hasDict, nodict_ints r]; rfl
theorem shownAll_ints : ∀ ns : List Int, PyData.shownAll (ns.map PyData.int) = ns.map fun n => PyData.shown (.int n)
  | [] => by rw [List.map_nil, PyData.shownAll]; rfl
  | n :: r => by rw [List.map_cons, PyData.shownAll, shownAll_ints r]; rfl
theorem textFrom_le : ∀ (ts : List Str) (k : Nat) (acc : Str) (B : Nat), (∀ t ∈ ts, t.length ≤ B) → (textFrom k acc ts).length ≤ acc.length + ts.length * (B + 2)
  | [], k, acc, B, _ => by show acc.length ≤ _; omega
  | t :: r, k, acc, B, h => by
    have ih := textFrom_le r (k + 1) (acc ++ (if k > 0 then ", " else "" : String) ++ t) B fun u hu => h u (by simp [hu])
    have h1 := h t (by simp)
    have e : (acc ++ (if k > 0 then ", " else "" : String) ++ t).length = acc.length + (if k > 0 then 2 else 0) + t.length := by
      rw [strLen_append, strLen_append]
      congr 2
      split <;> rfl
    have e2 : (if k > 0 then 2 else 0 : Nat) ≤ 2 := by split <;> omega
    show (textFrom (k + 1) (acc ++ (if k > 0 then ", " else "" : String) ++ t) r).length ≤ _
    rw [List.length_cons, Nat.add_mul, Nat.one_mul]
    omega
theorem shown_fits (ns : List Int) (hl : ns.length ≤ 1000) (h : ∀ n ∈ ns, n.natAbs < 2 ^ 1900) : (PyData.shown (dI ns)).length ≤ sizeLine := by
  unfold dI
  rw [PyData.shown, shownAll_ints]
  show (textFrom 0 "[" (ns.map fun n => PyData.shown (.int n)) ++ ("]" : String) : Str).length ≤ _
  have l := textFrom_le (ns.map fun n => PyData.shown (.int n)) 0 "[" 1921 (fun t ht => by
    obtain ⟨n, hn, e⟩ := List.mem_map.mp ht
    rw [← e, PyData.shown]
    refine PyProof.Rows.int_text_len_1921 ?_
    have h1 := h n hn
    rcases Nat.eq_zero_or_pos n.natAbs with z | z
    · rw [z]; decide
    · have := (Nat.log2_lt (by omega)).mpr h1
      omega)
  rw [List.length_map] at l
  rw [strLen_append]
  have e1 : (("[" : String) : Str).length = 1 := rfl
  have e2 : (("]" : String) : Str).length = 1 := rfl
  rw [sizeLine_eq]
  omega
def rStrL : List V → Hp → VK → Prop := fun vs H Q => ∃ p ns, vs = [.ref p] ∧ OB H p (.lst (ns.map V.int)) ∧ ns.length ≤ 1000 ∧ (∀ n ∈ ns, n.natAbs < 2 ^ 1900) ∧ Q (.str (PyData.shown (dI ns))) H
theorem cr_strL {X : Cx} (hg : X.A.guards = some []) (hu : X.A.units + 64 < cLine) : CallR X (.type "str") rStrL := by
  intro pins s σ H xs us Q I r h
  obtain ⟨p, ns, rfl, o, hl, hb, q⟩ := h
  obtain ⟨u, rfl, ru⟩ := vals1 r
  cases ru
  obtain ⟨as, rd⟩ := Dp.reads I (dI ns) _ _ (.lst o.sq (dpInts ns)) rfl
  have hd : (dI ns).depth ≤ 1 := dI_dep ns
  refine PySem.str_of_reads rd (by unfold dI; rw [PyData.showable]; exact showable_ints ns hb) (fun z => ?_) hg (by omega) (fun _ _ e => e) (fun h' u tk hk => ⟨.str _, H, I.kept (t' := tk) hk, ⟨_, rfl⟩, q⟩) (shown_fits ns hl hb)
  unfold dI at z
  rw [PyData.hasDict, nodict_ints] at z
  cases z
theorem rd_strL {H : Hp} {Q : VK} {p : Addr} {xs : List V} {ns : List Int} [o : OB H p (.lst xs)] [e : ILs xs ns] (hl : ns.length ≤ 1000) (hb : ∀ n ∈ ns, n.natAbs < 2 ^ 1900) (q : Q (.str (PyData.shown (dI ns))) H) : rStrL [.ref p] H Q := ⟨p, ns, rfl, ob_ints e o, hl, hb, q⟩
theorem str_two {n k : Int} (h : n.natAbs < 2 ^ 1900) (h2 : k.natAbs < 2 ^ 1900) : ∀ m ∈ [n, k], m.natAbs < 2 ^ 1900 := fun m hm => by
  rcases List.mem_cons.mp hm with rfl | z
  · exact h
  · rw [List.mem_singleton.mp z]; exact h2
theorem str_one {n : Int} (h : n.natAbs < 2 ^ 1900) : ∀ m ∈ [n], m.natAbs < 2 ^ 1900 := fun m hm => by rw [List.mem_singleton.mp hm]; exact h
instance {H : Hp} {Q : VK} {a b : Str} : Rd (rEq (.str a) (.str b) H Q) (Q (.bl (decide (a = b))) H) := ⟨fun q => by
  refine ⟨rfl, ?_⟩
  have e : decide (V.str a = V.str b) = decide (a = b) := by simp
  rw [e]; exact q⟩
instance {H : Hp} {Q : VK} {a b : Str} : Rd (rNe (.str a) (.str b) H Q) (Q (.bl (decide (a ≠ b))) H) := ⟨fun q => by
  refine ⟨rfl, ?_⟩
  have e : (!decide (V.str a = V.str b)) = decide (a ≠ b) := by simp
  rw [e]; exact q⟩
structure FnOkG (P : Program) (w : World) (K : PySem.W.Frag) (mg : Str → Option Value) (base : Heap) (CX : CXT) (k : Nat) (f : Addr) (fd : FuncData) (ps : List Str) (sp : Sp) : Prop where
  len : ∀ vs H Q E, sp vs H Q E → vs.length = ps.length
  run : ∀ (A : Around) (outer : List Env) (s : Shared) (H : Hp) (args : Args) (us : List Value) (vs : List V) (Q : VK) (E : XK), Room k A → A.guards = some [] → Env0 P w K mg base A outer s H → BindsTo s fd args (ps.zip us) → Vals vs us → sp vs H Q E →
    codeAny (model P w) A (.call (.ref f) args) (CR CX outer P w H s Q E) s
theorem FnOk.toG {P : Program} {w : World} {K : PySem.W.Frag} {mg : Str → Option Value} {base : Heap} {CX : CXT} {k : Nat} {f : Addr} {fd : FuncData} {ps : List Str} {sp : Sp} (F : FnOk P w K mg base CX k f fd ps sp) : FnOkG P w K mg base CX k f fd ps sp :=
  ⟨F.len, fun A outer s H args us vs Q E hr _ he hb hv hs => F.run A outer s H args us vs Q E hr he hb hv hs⟩
theorem fn_ofG {CX : CXT} {P : Program} {w : World} {K : PySem.W.Frag} {mg : Str → Option Value} {base : Heap} {k : Nat} {f : Addr} {name qual : Str} {params : Arguments} {body : List Stmt} {scope : Scope} {dV kV doc pm cdv ct oc : Value} {an od : Option Addr}
    {osl : Array (Option Value)} {N ps : List Str} {sp : Sp} (lk : K.lookup f = some ⟨oc, od, .func (PySem.W.fnOf name qual params body scope dV kV doc pm an cdv ct), osl⟩) (hcd : PySem.W.codeIn K cdv qual = true) (S : FnScope N ps scope)
    (len : ∀ vs H Q E, sp vs H Q E → vs.length = ps.length)
    (hbody : ∀ (A : Around) (outer : List Env) (s : Shared) (H : Hp) (vs : List V) (Q : VK) (E : XK), Room k (A.deeper (PyProof.Rows.envOfC qual scope s.heap.objs.size f cdv)) → (A.deeper (PyProof.Rows.envOfC qual scope s.heap.objs.size f cdv)).guards = some [] → sp vs H Q E →
      ∃ t, PSs (cxOf CX P w K mg base N qual scope f cdv A outer s H E) body t ∧ t { nx := fun _ H' => Q .non H', rt := Q } (start N vs) H) :
    FnOkG P w K mg base CX (k + 1) f (PySem.W.fnOf name qual params body scope dV kV doc pm an cdv ct) ps sp := by
  refine ⟨len, fun A out s H ar us vs Q E rm gd en bi rv hsp => ?_⟩
  have hlen := len _ _ _ _ hsp
  have kin : K.In s.heap := en.mod.kin.keeps fun z y q => (en.bs z y q).1
  have nol : s.heap.NoLimit := en.mod.nolimit.keeps fun z y q => (en.bs z y q).1
  have hk : ∀ y ∈ ps.zip us, scope.names.lookup y.1 = some .local ∨ (scope.names.lookup y.1 = some .cell ∧ ((cellsFrom (s.heap.objs.size + 1) scope.names []).lookup y.1).isSome = true) := by
    rintro ⟨nm, va⟩ hy
    exact (S.par nm (List.of_mem_zip hy).1).elim .inl fun q => .inr ⟨q, PySem.W.cellsFrom_some _ _ _ (.inl q)⟩
  refine codeAny_call_function rm.depth (kin _ _ lk) rfl S.co S.gen rfl (PySem.W.codeRec_of kin hcd) (bi _ _ _ _ ?_)
  refine wpAny_newFunctionEnv_cells S.kind hk fun ev hev s2 x => ?_
  subst hev
  refine ⟨nol.keeps x.toInCall.keep, codeAny_func ?_⟩
  obtain ⟨t, pt, pq⟩ := hbody A out s H vs Q E (rm.deeper _) gd hsp
  have J := inv_start (CX := CX) (E := E) S rm.hd en hlen rv x
  refine wpAny_mono (pt.run [] s2 (L2.start N vs) H _ J pq) (fun fl s3 hs => ?_) fun _ _ hs => hs
  cases fl with
  | brk => obtain ⟨_, _, _, q⟩ := hs; exact q.elim
  | cont => obtain ⟨_, _, _, q⟩ := hs; exact q.elim
  | ret u =>
    obtain ⟨v, σ', H', J', r', q⟩ := hs
    exact ⟨v, H', J'.os, J'.bare, J'.base, J'.hok, r', q⟩
  | next =>
    obtain ⟨σ', H', J', q⟩ := hs
    exact ⟨V.non, H', J'.os, J'.bare, J'.base, J'.hok, rfl, q⟩
theorem okGf {P : Program} {w : World} {K : PySem.W.Frag} {mg : Str → Option Value} {base : Heap} {x q : Str} {st : Stmt} {f : Addr} {fd : FuncData} {N ps : List Str} {k : Nat} {sp : Sp} (F : Fun K x q st f fd) (S : FnScope N ps (defScope st)) (len : ∀ vs H Q E, sp vs H Q E → vs.length = ps.length)
    (hbody : ∀ (cdv : Value) (A : Around) (out : List Env) (s : Shared) (H : Hp) (vs : List V) (Q : VK) (E : XK), Room k (A.deeper (PyProof.Rows.envOfC q (defScope st) s.heap.objs.size f cdv)) → (A.deeper (PyProof.Rows.envOfC q (defScope st) s.heap.objs.size f cdv)).guards = some [] → sp vs H Q E →
      ∃ t, PSs (cxOf CX0 P w K mg base N q (defScope st) f cdv A out s H E).nox (defBody st) t ∧ t { nx := fun _ H' => Q .non H', rt := Q } (start N vs) H) : FnOkG P w K mg base CX0 (k + 1) f fd ps sp := by
  obtain ⟨_, _, _, _, _, _, cdv, _, _, e, lk, hc⟩ := F.ex
  subst e
  exact fn_ofG lk hc S len fun A out s H vs Q E rm gd h => by
    obtain ⟨t, p, q⟩ := hbody cdv A out s H vs Q E rm gd h
    exact ⟨t, p.nox, q⟩
structure FnG (P : Program) (w : World) (K : PySem.W.Frag) (mg : Str → Option Value) (base : Heap) (x : Str) (ps : List Str) (k : Nat) (sp : Sp) : Prop where
  ex : ∃ f fd, mg x = some (.ref f) ∧ FnOkG P w K mg base CX0 k f fd ps sp ∧ Binds K fd ps [] ∧ PySem.W.keepIn K (.ref f) = true
theorem Fn0.okG {P : Program} {w : World} {K : PySem.W.Frag} {mg : Str → Option Value} {base : Heap} {x : Str} {ps : List Str} {st : Stmt} {N : List Str} {k : Nat} {sp : Sp} (F : Fn0 K mg x ps st) (S : FnScope N ps (defScope st)) (len : ∀ vs H Q E, sp vs H Q E → vs.length = ps.length)
    (hbody : ∀ (f : Addr) (cdv : Value) (A : Around) (outer : List Env) (s : Shared) (H : Hp) (vs : List V) (Q : VK) (E : XK), Room k (A.deeper (PyProof.Rows.envOfC x (defScope st) s.heap.objs.size f cdv)) → (A.deeper (PyProof.Rows.envOfC x (defScope st) s.heap.objs.size f cdv)).guards = some [] → sp vs H Q E →
      ∃ t, PSs (cxOf CX0 P w K mg base N x (defScope st) f cdv A outer s H E).nox (defBody st) t ∧ t { nx := fun _ H' => Q .non H', rt := Q } (start N vs) H) : FnG P w K mg base x ps (k + 1) sp := by
  obtain ⟨f, fd, hm, F, b⟩ := F.ex
  exact ⟨f, fd, hm, okGf F S len (hbody f), b, F.kp⟩
theorem run_fnG {X : Cx} {CX : CXT} {k : Nat} {f : Addr} {fd : FuncData} {ps : List Str} {sp : Sp} {E : XK} {pins : List (Addr × Obj)} {σ : L2.St} {H : Hp} {s : Shared} {Q : VK} {us : List Value} {vs : List V} (F : FnOkG X.prog X.w X.K X.mg X.base CX k f fd ps sp) (hr : Room k X.A) (gd : X.A.guards = some []) (hb : Binds X.K fd ps []) (hx : Passes CX X E)
    (J : Inv X pins σ H s) (r : Vals vs us) (h : sp vs H Q E) : wpAny (model X.prog X.w) X.A (call (.ref f) us) (EP X pins σ Q) X.xe s := by
  have hl : us.length = ps.length := by rw [← r.length]; exact F.len _ _ _ _ h
  have bb := hb s us J.kIn (by rw [List.append_nil]; exact hl)
  rw [List.append_nil] at bb
  refine wpAny_call (codeAny_mono (F.run X.A X.stack s H ⟨us, []⟩ us vs Q E hr gd J.env0 bb r h) fun rr s2 hq => ?_)
  cases rr with
  | error e => exact hx pins σ H s e s2 J hq
  | ok fl =>
    cases fl with
    | ret u => exact J.after hq
    | next => exact hq.elim
    | brk => exact hq.elim
    | cont => exact hq.elim
theorem pe_fnG {X : Cx} {x : Str} {ps : List Str} {j k : Nat} {sp : Sp} {e : Expr} {es : List Expr} {t : TA} {p pos : Pos} (F : FnG X.prog X.w X.K X.mg X.base x ps j sp) (hr : Room k X.A) (gd : X.A.guards = some []) (hg : Gl X x) (ha : PA X (e :: es) t) (hl : j ≤ k := by decide) (hdb : (x == ("__debug__" : Str)) = false := by decide)
    (he : starEach (e :: es) X.env = (false, eval e X.env) :: starEach es X.env := by rfl) (hpl : (backTo pos (starEach es X.env)).any (·.1) = false := by rfl) : PE X (.Call (.Name x p) (e :: es) [] pos) (tFn sp E0 t) := by
  obtain ⟨f, fd, hm, G, b, kp⟩ := F.ex
  refine ⟨fun pins s σ H Q J h => wpAny_Call_Name_kw (ld_glob J hg hm ?_ hdb)⟩
  refine PySem.W.callWith_K (h₀ := X.base) J.ok.mod.kin kp (thn (ha.run pos pins s σ H _ J h) fun us s1 ⟨vs, H1, J1, r, q⟩ => ⟨J1.kIn, ?_⟩) he hpl
  exact run_fnG G (hr.mono hl) gd b pass0 J1 r q
/-! ### the end, for a law that wants to know of the guards -/
section
variable {P : Program} {w : World} {K : PySem.W.Frag} {mg mb : Str → Option Value} {k : Nat} {fa a : Addr} {fd : FuncData} {x : Str} {sp : Sp} {t : Shared} {vs : List Value} {ns : List Int}
abbrev scr (vs : List Value) : Obj := { cls := .type "list", data := .seq vs.toArray }
abbrev EndG (s : Shared) : Result → Shared → Prop := fun r s2 => r = .ok (.ret (.bool true)) ∧ OldK s.heap s2.heap ∧ s2.os = s.os ∧ PyProof.Rows.AllBare s2.gens
theorem law_coreG (kin : K.In t.heap) (nm : t.heap.Ns mainGlobals mg) (nb : t.heap.Ns builtinsNs mb) (bb : ∀ x : Str, x ≠ "__name__" → mb x = bootBuiltins x) (nl : t.heap.NoLimit) (gn : t.gens = #[]) (ha : t.heap.get? a = some (scr vs)) (hr : Room k callerA)
    (F : ∀ base : Heap, K.In base → base.Ns mainGlobals mg → FnOkG P w K mg base CX0 k fa fd [x] sp) (bind : ∀ (s : Shared) (u : Value), BindsTo s fd ⟨[u], []⟩ [(x, u)])
    (H : Hp) (only : ∀ c, H c = none ∨ c = a ∧ K.lookup a = none ∧ ∃ o xs, H c = some (.frz o (.lst xs))) (hok : HOk P w H t.heap) (prom : sp [.ref a] H (fun v _ => v = .bl true) fun _ _ _ => False) :
    codeAny (model P w) callerA (.call (.ref fa) ⟨[.ref a], []⟩) (EndG t) t := by
  have hid : ∀ {c : Addr} {o : Obj}, t.heap.get? c = some o → (c = a → K.lookup a = none → False) → (hidT t.heap H).get? c = some o := fun {c o} e n => hidT_get e ((only c).elim id fun z => (n z.1 z.2.1).elim)
  have nsp : ∀ {c : Addr} {m : Str → Option Value}, t.heap.Ns c m → (hidT t.heap H).Ns c m := by
    rintro c m ⟨o, es, ep, e, d, r⟩
    refine ⟨o, es, ep, hid e fun z _ => ?_, d, r⟩
    rw [z, ha] at e
    cases e
    cases (show Data.seq vs.toArray _ = Data.dict es ep from d)
  have kb : K.In (hidT t.heap H) := fun c o e => hid (kin c o e) fun z q => by rw [z, q] at e; cases e
  obtain ⟨ml, l1, l2⟩ := nl
  have en : Env0 P w K mg (hidT t.heap H) callerA [] t H :=
    ⟨rfl, ⟨kb, nsp nm, ⟨mb, nsp nb, bb⟩, ⟨ml, nsp l1, l2⟩⟩, fun _ _ => of_hidT, Nat.le_of_eq (hidT_size _ _), trivial, fun c z => (List.not_mem_nil (show c ∈ ([] : List Addr) from z)).elim, hok, .of_eq gn⟩
  refine codeAny_mono ((F _ kb (nsp nm)).run callerA [] t H ⟨[.ref a], []⟩ [.ref a] [.ref a] _ _ hr rfl en (bind t (.ref a)) (.cons rfl .nil) prom) fun r s2 h => ?_
  match r, h with
  | .error e, h => exact h.elim
  | .ok .next, h => exact h.elim
  | .ok .brk, h => exact h.elim
  | .ok .cont, h => exact h.elim
  | .ok (.ret u), ⟨v, G, os, bare, un, gok, rv, e⟩ =>
    have e : v = .bl true := e
    rw [e] at rv
    obtain rfl : u = Value.bool true := rv
    refine ⟨rfl, OldK.of_keep fun c o z => ?_, os, bare⟩
    rcases only c with n | ⟨_, _, ob, ys, n⟩
    · exact un.keep c o z n (fun y => (List.not_mem_nil (show c ∈ ([] : List Addr) from y)).elim) (by simp)
    · have h1 := (hok c _ n).1
      rw [z] at h1
      cases h1
      exact (gok c _ (un.frzs c _ _ n)).1
theorem law_callG (kin : K.In t.heap) (nm : t.heap.Ns mainGlobals mg) (nb : t.heap.Ns builtinsNs mb) (bb : ∀ x : Str, x ≠ "__name__" → mb x = bootBuiltins x) (nl : t.heap.NoLimit) (gn : t.gens = #[]) (ha : t.heap.get? a = some (scr vs)) (hi : PyProof.Rows.IntsAre vs ns) (hl : ns.length ≤ sizeLine) (hr : Room k callerA)
    (F : ∀ base : Heap, K.In base → base.Ns mainGlobals mg → FnOkG P w K mg base CX0 k fa fd [x] sp) (bind : ∀ (s : Shared) (u : Value), BindsTo s fd ⟨[u], []⟩ [(x, u)])
    (prom : ∀ H : Hp, SqL K H a (ns.map V.int) → sp [.ref a] H (fun v _ => v = .bl true) fun _ _ _ => False) :
    codeAny (model P w) callerA (.call (.ref fa) ⟨[.ref a], []⟩) (EndG t) t := by
  have vl := vals_ints hi
  have ln := hi.length
  cases e : K.lookup a with
  | none =>
    refine law_coreG kin nm nb bb nl gn ha hr F bind (fun c => if c = a then some (.frz (scr vs) (.lst (ns.map V.int))) else none) (fun c => ?_) (fun c u z => ?_) (prom _ (.inl (.inr ⟨scr vs, if_pos rfl⟩)))
    · by_cases h : c = a
      · exact .inr ⟨h, e, _, _, if_pos h⟩
      · exact .inl (if_neg h)
    · by_cases h : c = a
      · subst h
        cases (if_pos rfl).symm.trans z
        exact ⟨ha, by rw [List.length_map]; exact hl, vs, _, vl, ha⟩
      · cases (if_neg h).symm.trans z
  | some o =>
    have eo := kin a o e
    rw [ha] at eo
    cases eo
    exact law_coreG kin nm nb bb nl gn ha hr F bind (fun _ => none) (fun _ => .inl rfl) (fun c u z => by cases (show (none : Option HO) = some u from z)) (prom _ (.inr ⟨_, vs.toArray, _, e, rfl, rfl, rfl, by rw [List.size_toArray, ln]; exact hl, by simpa using vl⟩))
end
theorem walkG_of {l : PySem.W.OpenLaw} {n k : Nat} {q : Program} {loose : List Str} {XP : (Str → Option Value) → Heap → Prop} {YP : World → Heap → Prop} {d : DefRec} {K : PySem.Params → PySem.W.Frag} {sp : World → Sp} {x : Str}
    (hn : l.most = some n) (hz : n ≤ sizeLine) (hdf : d.params.defaults = []) (rm : Room k callerA) (hY : ∀ (w : World) (h : Heap), YP w h → (K w.params).In h)
    (F : ∀ (w : World) (mg : Str → Option Value) (fa : Addr) (h : Heap), (K w.params).In h → h.Ns mainGlobals mg → mg d.name = some (.ref fa) →
      ∃ fd : FuncData, (∀ (s : Shared) (u : Value), BindsTo s fd ⟨[u], []⟩ [(x, u)]) ∧ ∀ base : Heap, (K w.params).In base → base.Ns mainGlobals mg → FnOkG l.prog w (K w.params) mg base CX0 k fa fd [x] (sp w))
    (prom : ∀ (w : World) (H : Hp) (a : Addr) (ns : List Int), ns.length ≤ n → SqL (K w.params) H a (ns.map V.int) → sp w [.ref a] H (fun v _ => v = .bl true) fun _ _ _ => False) :
    PySem.W.WalkO q loose XP YP l.row.toRowW d [] (fun f vs => PySem.call f vs) :=
  Att.attach_call hn hdf fun w _ s1 mg mb fa _ _ _ _ a vs ns G Y _ _ _ hm hobj hints hlen hgen => by
    obtain ⟨fd, b, f⟩ := F w mg fa _ (hY w _ Y) G.T.g hm
    exact law_callG (hY w _ Y) G.T.g G.T.b G.T.builtins G.T.nolimit hgen hobj hints (Nat.le_trans hlen hz) rm f b fun H hS => prom w H a ns hlen hS
theorem ne_selfD {α : Type} [DecidableEq α] {x : α} : decide (x ≠ x) = false := decide_eq_false fun h => h rfl
/-! ### refusals -/
/-- a method asked where X.K must be written out -/
theorem pe_bmK {X : Cx} {K : PySem.W.Frag} {T : String} {name : Str} {id : String} {r : V → List V → Hp → VK → Prop} {o e : Expr} {es : List Expr} {to : TE} {t : TA} {apos cpos : Pos} (hK : X.K = K) (pa : PlainAttrs T) (slot : Slot T name id) (hty : typeOf (.builtin id) = pure (.type "method_descriptor")) (hm : MtR X id r) (ho : PE X o to) (ha : PA X (e :: es) t)
    (hbase : attributeBase o name X.env (eval o X.env) = eval o X.env := by rfl)
    (hfew : ((backTo cpos (starEach (e :: es) X.env)).all (fun x => !x.1) && (backToKw cpos (keywordEach [] X.env)).all (fun x => x.1.isSome)
      && decide ((e :: es).length + ([] : List Keyword).length + (if ([] : List Keyword).isEmpty then 0 else 1) < 30)) = true := by rfl)
    (hline : (apos.endLine == cpos.line) = true := by rfl) (hs : starEach (e :: es) X.env = (false, eval e X.env) :: starEach es X.env := by rfl) (hplain : (backTo cpos (starEach es X.env)).any (·.1) = false := by rfl) :
    PE X (.Call (.Attribute o name apos) (e :: es) [] cpos) (tBM K T r to t) := by
  subst hK
  exact pe_bm pa slot hty hm ho ha hbase hfew hline hs hplain
theorem takesN {X : Cx} : Takes X (fun _ _ _ _ => False) := fun _ _ z => by
  obtain ⟨_, _, _, _, _, _, _, _, _, _, _, _, _, _, _, _, h⟩ := z
  exact h.elim
section
variable {X : Cx} {x : Str} {ps : List Str} {j k : Nat} {sp : Sp} {e : Expr} {es : List Expr} {t : TA} {p pos : Pos}
/-- a def that may raise, called where it doesn't -/
theorem pe_fnN (F : FnX X.prog X.w X.K X.mg X.base x ps j sp) (hr : Room k X.A) (hg : Gl X x) (ha : PA X (e :: es) t) (hl : j ≤ k := by decide) (hdb : (x == ("__debug__" : Str)) = false := by decide)
    (he : starEach (e :: es) X.env = (false, eval e X.env) :: starEach es X.env := by rfl) (hpl : (backTo pos (starEach es X.env)).any (·.1) = false := by rfl) : PE X (.Call (.Name x p) (e :: es) [] pos) (tFn sp E0 t) :=
  pe_fnE F hr (passes_call (W := fun _ _ _ _ => False) takesN fun _ _ _ _ h => h) hg ha hl hdb he hpl
def tFnS (sp : Sp) (W : WX) (t : TA) : TE := fun σ H Q => t σ H fun vs H1 => sp vs H1 Q (WE W σ)
/-- called in a try -/
theorem pe_fnS (F : FnX X.prog X.w X.K X.mg X.base x ps j sp) (hr : Room k X.A) {W : WX} (tk : Takes X W) (hg : Gl X x) (ha : PA X (e :: es) t) (hl : j ≤ k := by decide) (hdb : (x == ("__debug__" : Str)) = false := by decide)
    (he : starEach (e :: es) X.env = (false, eval e X.env) :: starEach es X.env := by rfl) (hpl : (backTo pos (starEach es X.env)).any (·.1) = false := by rfl) : PE X (.Call (.Name x p) (e :: es) [] pos) (tFnS sp W t) := by
  obtain ⟨f, fd, hm, G, b, kp⟩ := F.ex
  exact pe_callS G (hr.mono hl) hg hm kp b (fun σ => passAt tk σ) ha hdb he hpl
instance {W : WX} {σ : L2.St} {H : Hp} {Q : VK} : Rd (tFnS sp W t σ H Q) (t σ H fun vs H1 => sp vs H1 Q (WE W σ)) := ⟨fun h => h⟩
end
class ExcI (K : PySem.W.Frag) (D : Addr) : Prop where h : ExcC K D
def rIsX (K : PySem.W.Frag) (a : Addr) (cls : Value) (d : Option Addr) : List V → Hp → VK → Prop := fun xs H Q => ∃ D, cls = .ref D ∧ d = none ∧ ExcC K D ∧ rIsE K D a xs H Q
theorem cr_isX {X : Cx} {K : PySem.W.Frag} (hK : X.K = K) {a : Addr} {oe : Obj} {cls : Value} {d : Option Addr} {pn : List (Addr × Obj)} (hz : Zc cls d oe) (hf : ∃ vs, oe.data = .fields vs) : CallR (X.suite a ((a, oe) :: pn)) (.builtin "isinstance") (rIsX K a cls d) := by
  subst hK
  intro pins s σ H xs us Q I r h
  obtain ⟨D, e1, e2, C, h⟩ := h
  subst e1 e2
  exact call_isE C hz hf pins s σ H xs us Q I r h
instance {K : PySem.W.Frag} {a C D : Addr} {H : Hp} {Q : VK} {b : Bool} [x : ExcI K D] [e : KitI K D C b] : Rd (rIsX K a (.ref D) none [.ref a, .ref C] H Q) (Q (.bl b) H) := ⟨fun h => ⟨D, rfl, rfl, x.h, .ref C, .ref C, b, rfl, fun _ r => r, e.h, h⟩⟩
class ExmI (K : PySem.W.Frag) (D C : Addr) : Prop where h : PySem.W.exmOne K (.ref D) (.ref C) = some true
theorem rd_catch {K : PySem.W.Frag} {C D : Addr} {i : Nat} {ts : Addr → Value → Option Addr → TS} {Wout : WX} {D' : Ends} {σ : L2.St} {H : Hp} [x : ExmI K D C]
    (h : ∀ a, H a = none → ts a (.ref D) none { nx := fun σ' H' => D'.nx (σ'.set i none) H', rt := D'.rt, bk := fun σ' H' => D'.bk (σ'.set i none) H', ct := fun σ' H' => D'.ct (σ'.set i none) H' } (σ.set i (some (.ref a))) H) : WE (wAs K (.ref C) i ts Wout D') σ (.ref D) none H :=
  ⟨true, x.h, fun _ a ha => h a ha, fun z => Bool.noConfusion z⟩
/-- what the written part says of a class that is raised -/
structure RaiC (K : PySem.W.Frag) (C : Addr) : Prop where
  x : PySem.W.excIn K C [.type "ValueError", .type "Exception", .type "BaseException", .type "object"] "ValueError.__new__" = true
  k : PySem.W.keepIn K (.ref C) = true
  b : PySem.W.subIn K (.ref C) (.type "BaseException") = some true
  t : PySem.W.typeIn K (.ref C) = some (.type "type")
/-! ### order of (number, list) -/
def rLtTL (K : PySem.W.Frag) : R2 := fun x y H Q => ∃ (a b : Int) (ns ms : List Int), Dp K H x (.tuple [.int a, dI ns]) ∧ Dp K H y (.tuple [.int b, dI ms]) ∧ Q (.bl (if a = b then PySem.W.listLt ns ms else decide (a < b))) H
theorem op_ltTL {X : Cx} {K : PySem.W.Frag} (hK : X.K = K) (hu : X.A.units + 64 < cLine) : OpR X (compareOp .Lt) (rLtTL K) := by
  subst hK
  intro pins s σ H x y v u Q I rx ry h
  obtain ⟨a, b, ns, ms, hd, he, q⟩ := h
  obtain ⟨as, r1⟩ := Dp.reads I _ x v hd rx
  obtain ⟨bs, r2⟩ := Dp.reads I _ y u he ry
  have h1 := dI_dep ns
  have e := PySem.W.DatumOrd.lt_eq (a, ns) (b, ms)
  refine PySem.W.lt_data r1 r2 (PySem.W.DatumOrd.alike (a, ns) (b, ms)) (fun z => by cases z) ?_ ⟨.bl (if a = b then PySem.W.listLt ns ms else decide (a < b)), H, I, ?_, q⟩
  · have h2 : (PyData.tuple [.int a, dI ns]).depth ≤ 3 := by
      rw [PyData.depth, PyData.depthAll, PyData.depthAll, PyData.depthAll, PyData.depth]
      omega
    omega
  · show Value.bool _ = Value.bool _
    exact congrArg Value.bool e
instance {K : PySem.W.Frag} {H : Hp} {Q : VK} {p q r t : Addr} {a b : Int} {xs ys : List V} {ns ms : List Int} [o : OB H p (.tup [.int a, .ref q])] [o1 : OB H q (.lst xs)] [e : ILs xs ns] [o2 : OB H r (.tup [.int b, .ref t])] [o3 : OB H t (.lst ys)] [f : ILs ys ms] :
    Rd (rLtTL K (.ref p) (.ref r) H Q) (Q (.bl (if a = b then PySem.W.listLt ns ms else decide (a < b))) H) := ⟨fun h =>
  ⟨a, b, ns, ms, .tup o.st (.cons (.int a) (.cons (.lst o1.sq (by rw [e.e]; exact dpInts ns)) .nil)), .tup o2.st (.cons (.int b) (.cons (.lst o3.sq (by rw [f.e]; exact dpInts ms)) .nil)), h⟩⟩
/-! ### texts: of a number, of its signs -/
def rStrI : List V → Hp → VK → Prop := fun xs H Q => ∃ i : Int, xs = [.int i] ∧ i.natAbs < 2 ^ 1900 ∧ Q (.str (Str.ofString (toString i))) H
theorem cr_strI {X : Cx} : CallR X (.type "str") rStrI := cr_weak call_str_int fun vs H Q ⟨i, e, h, q⟩ => ⟨i, e, by
  rcases Nat.eq_zero_or_pos i.natAbs with z | z
  · rw [z]; decide
  · have := (Nat.log2_lt (by omega)).mpr h
    omega, q⟩
theorem rd_strI {H : Hp} {Q : VK} {i : Int} (h : i.natAbs < 2 ^ 1900) (q : Q (.str (Str.ofString (toString i))) H) : rStrI [.int i] H Q := ⟨i, rfl, h, q⟩
def rListS0 : List V → Hp → VK → Prop := fun xs H Q => ∃ x : Str, xs = [.str x] ∧ x.cps.size ≤ 100000 ∧ ∀ l, H l = none → Q (.ref l) (upd H l (.lst (x.cps.toList.map fun c => V.str ⟨#[c]⟩)))
theorem call_list_text {X : Cx} (hc : X.calm = true) : CallR X (.type "list") rListS0 := by
  intro pins s σ H xs us Q I r h
  obtain ⟨x, e, hx, q⟩ := h
  subst e
  obtain ⟨u, eu, rx⟩ := vals1 r
  subst eu
  obtain ⟨t, rfl⟩ : ∃ t, u = Value.str x t := rx
  refine call_list_str (I.ok.hd hc) x t (fun h' tk acc' c' kp e hacc => ?_) (small_of hx)
  have el : acc'.toList.length = acc'.size := by simp
  refine ⟨.ref s.heap.objs.size, upd H s.heap.objs.size (.lst (x.cps.toList.map fun c => V.str ⟨#[c]⟩)), I.laid kp (Nat.le_refl _) (show ObjOk X.prog X.w _ _ _ (.lst (x.cps.toList.map fun c => V.str ⟨#[c]⟩)) from ⟨?_, acc'.toList, c', ?_, ?_⟩), rfl, q _ (I.hok.fresh (Nat.le_refl _))⟩
  · rw [List.length_map, Array.length_toList]; exact small_of hx
  · refine vals_of_at (by rw [List.length_map, Array.length_toList, el, hacc.1]) fun j y w h1 h2 => ?_
    obtain ⟨c, u, hcu, hw⟩ := hacc.2 j w (by rw [← Array.getElem?_toList]; exact h2)
    rw [List.getElem?_map, Array.getElem?_toList, hcu] at h1
    have h1 : V.str ⟨#[c]⟩ = y := Option.some.inj h1
    subst h1
    exact ⟨u, hw⟩
  · exact e
def rListS : List V → Hp → VK → Prop := fun xs H Q => ∃ x : Str, xs = [.str x] ∧ x.cps.size ≤ 100000 ∧ kNew Q (.lst (x.cps.toList.map fun c => V.str ⟨#[c]⟩)) H
theorem cr_listS {X : Cx} (hc : X.calm = true) : CallR X (.type "list") rListS := cr_weak (call_list_text hc) fun vs H Q ⟨x, e, h, q⟩ => ⟨x, e, h, q.of⟩
theorem rd_listS {H : Hp} {Q : VK} {x : Str} (h : x.cps.size ≤ 100000) (q : kNew Q (.lst (x.cps.toList.map fun c => V.str ⟨#[c]⟩)) H) : rListS [.str x] H Q := ⟨x, rfl, h, q⟩
class SLs (xs : List V) (ss : outParam (List Str)) : Prop where e : xs = ss.map V.str
instance slNil : SLs [] [] := ⟨rfl⟩
instance slCons {b : Str} {xs : List V} {bs : List Str} [o : SLs xs bs] : SLs (.str b :: xs) (b :: bs) := ⟨by rw [o.e]; rfl⟩
instance slMap {bs : List Str} : SLs (bs.map V.str) bs := ⟨rfl⟩
instance slMapF {α : Type} {l : List α} {f : α → Str} : SLs (l.map fun x => V.str (f x)) (l.map f) := ⟨by rw [List.map_map]; rfl⟩
theorem dpStrs {K : PySem.W.Frag} {H : Hp} : ∀ bs : List Str, DpAll K H (bs.map V.str) (bs.map PyData.str)
  | [] => .nil
  | b :: r => .cons (.str b) (dpStrs r)
class StOk (bs : List Str) : Prop where h : ∀ b ∈ bs, PyData.strOk b = true
theorem lay_strs : ∀ bs : List Str, (∀ b ∈ bs, PyData.strOk b = true) → PyData.canLayAll0 (bs.map PyData.str) = true
  | [], _ => by rw [List.map_nil, PyData.canLayAll0]
  | b :: r, h => by rw [List.map_cons, PyData.canLayAll0, PyData.canLay0, h b (by simp), lay_strs r fun x hx => h x (by simp [hx])]; rfl
instance dpSLs {K : PySem.W.Frag} {H : Hp} {p : Addr} {xs : List V} {bs : List Str} [o : OB H p (.lst xs)] [e : SLs xs bs] [k : StOk bs] : DP K H (.ref p) (.list (bs.map PyData.str)) := ⟨.lst o.sq (by rw [e.e]; exact dpStrs bs), by
  have := dep_map PyData.str 0 (fun _ => by rw [PyData.depth]; exact Nat.le_refl 0) bs
  unfold SeqAt.shaped
  rw [PyData.canLay0, PyData.depth, lay_strs bs k.h, Bool.true_and, decide_eq_true_iff]
  omega⟩
instance {bs cs : List Str} : EqD (.list (bs.map PyData.str)) (.list (cs.map PyData.str)) (decide (bs = cs)) := ⟨by
  show PyData.eqvAll _ _ = _
  exact eqv_map PyData.str (fun x y => by rw [PyData.eqv]; by_cases h : x = y <;> simp [h]) bs cs⟩
/-! ### list(range(a, b)) of great numbers -/
section
variable {prog : Program} {w : World} {A : Around} {E : Value → Shared → Prop} {s : Shared}
theorem ext_long {R : Result → Shared → Prop} {r : Addr} {a b c : Int} {t u v : Tok} {n : Nat} (hh : A.handled = none) (hr : IsRange s.heap r a b c t u v) (hbig : Builtin.Range.small a b c = false)
    (hn : Builtin.Range.rangeSize a b c = n) (hlen : n ≤ 2 ^ 24) (S : Addr) (res : Value) (c₀ : Nat) (hS : s.heap.get? S = some { cls := .type "list", data := .seq #[] c₀ })
    (hR : ∀ h' tk acc' c', (∀ b o, b ≠ S → s.heap.get? b = some o → h'.get? b = some o) → h'.get? S = some { cls := .type "list", dict := none, data := .seq acc' c', slots := #[] } →
      ItemsOf (fun i v => ∃ t, v = .int (a + i * c) t) acc' n → R (.ok (.ret res)) { s with heap := h', toks := tk }) :
    wpAny (model prog w) A.in1 (Builtin.List.listExtendWith (.ref S) (.ref r) res)
      (fun fin s' => match fin with | .done f => R (.ok f) s' | .again c' => c'.quiet = true ∧ codeAny (model prog w) A c' R s') (fun e s' => R (.error e) s') s := by
  have hSr : S ≠ r := fun e => by rw [e, hr] at hS; simp at hS
  have hSlt : S < s.heap.objs.size := Heap.lt_size hS
  have hSI : S ≠ s.heap.objs.size := Nat.ne_of_lt hSlt
  have hSf : S ∉ [s.heap.objs.size] := fun hm => hSI (List.mem_singleton.mp hm)
  have W := (Walks.longrange (prog := prog) (w := w) (A := A.in1) hh s.heap.objs.size a c n).toS
  have key : ∀ (h : Heap) (c₁ tk : Nat), IsLongIter h s.heap.objs.size (a + ((0 : Nat) : Int) * c) ((n : Int) - ((0 : Nat) : Int)) c → (∀ b o, b ≠ S → s.heap.get? b = some o → h.get? b = some o) →
      h.get? S = some { cls := .type "list", data := .seq #[] c₁ } → codeAny (model prog w) A (.builtin "list.extend.loop" ⟨[.ref S, .ref s.heap.objs.size, res], []⟩) R { s with heap := h, toks := tk } := by
    intro h c₁ tk hit hk hS₁
    refine codeAny_extend_loopS W (by rw [sizeLine_eq]; omega) S hSf res n 0 _ #[] c₁ rfl (Nat.zero_le _) hit hS₁ (ItemsOf.nil _) fun s' acc' c' hm hS' hacc => ?_
    rw [Moved.eq_with hm]
    refine hR s'.heap s'.toks acc' c' (fun b o hb e => hm.heap b o (fun hmem => ?_) (hk b o hb e)) hS' hacc
    rcases List.mem_cons.mp hmem with e' | hmem
    · exact hb e'
    · exact absurd (Heap.lt_size e) (by rw [List.mem_singleton.mp hmem]; exact Nat.lt_irrefl _)
  unfold Builtin.List.listExtendWith
  refine wpAny_bind (wpAny_typeOf (T := "range") ⟨_, hr, rfl⟩ ?_)
  have h1 : Builtin.List.listSameRef (.ref S) (.ref r) = false := by simp [Builtin.List.listSameRef, hSr]
  have h2 : (Value.type "range" == Value.type "list") = false := by decide
  have h3 : (Value.type "range" == Value.type "tuple") = false := by decide
  simp only [h1, h2, h3, Bool.or_false, Bool.false_eq_true, if_false]
  refine wpAny_bind (wpAny_pyIter_longrange hr hbig ?_)
  refine wpAny_bind (wpAny_holding (wpAny_hint_range (n := n) (Heap.get?_push_of_some _ hr) hn hlen ?_))
  have hit₁ : IsLongIter (s.heap.push { cls := .type "longrange_iterator", data := .fields #[rawInt a, rawInt (Builtin.Range.rangeSize a b c), rawInt c] }) s.heap.objs.size (a + ((0 : Nat) : Int) * c) ((n : Int) - ((0 : Nat) : Int)) c := by
    show IsLongIter _ _ _ _ _
    rw [hn]
    simpa using Heap.get?_push_size _ rfl
  have hS₁ := Heap.get?_push_of_some { cls := .type "longrange_iterator", data := .fields #[rawInt a, rawInt (Builtin.Range.rangeSize a b c), rawInt c] } hS
  refine wpAny_ite_split (fun _ => ?_) (fun _ => wpAny_pure ⟨plainId_quiet F.plain_extend_loop _, key _ c₀ _ hit₁ (fun b o _ e => Heap.get?_push_of_some _ e) hS₁⟩)
  refine wpAny_bind (wpAny_rule ?_)
  refine wpAny_bind ?_
  show wpAny _ _ (updateSeq S (·.push .none) >>= fun _ => updateSeq S (·.pop)) _ _ _
  refine wpAny_bind (wpAny_updateSeq hS₁ rfl ?_)
  have hS₂ := Heap.get?_update_self (Obj.mapSeq (·.push Value.none)) hS₁ rfl
  refine wpAny_updateSeq (hz := by seq_fits) hS₂ rfl ?_
  have hS₃ := Heap.get?_update_self (Obj.mapSeq (·.pop)) hS₂ rfl
  refine wpAny_pure ⟨plainId_quiet F.plain_extend_loop _, key _ _ _ ?_ (fun b o hb e => ?_) hS₃⟩
  · exact (Heap.get?_update_other _ _ hSI).trans ((Heap.get?_update_other _ _ hSI).trans hit₁)
  · exact (Heap.get?_update_other _ _ (Ne.symm hb)).trans ((Heap.get?_update_other _ _ (Ne.symm hb)).trans (Heap.get?_push_of_some _ e))
theorem init_long {R : Result → Shared → Prop} {r : Addr} {a b c : Int} {t u v : Tok} {n : Nat} (hh : A.handled = none) (hr : IsRange s.heap r a b c t u v) (hbig : Builtin.Range.small a b c = false)
    (hn : Builtin.Range.rangeSize a b c = n) (hlen : n ≤ 2 ^ 24) (S : Addr) (hS : s.heap.get? S = some { cls := .type "list", data := .seq #[] })
    (hR : ∀ h' tk acc' c', (∀ b o, b ≠ S → s.heap.get? b = some o → h'.get? b = some o) → h'.get? S = some { cls := .type "list", dict := none, data := .seq acc' c', slots := #[] } →
      ItemsOf (fun i v => ∃ t, v = .int (a + i * c) t) acc' n → R (.ok (.ret .none)) { s with heap := h', toks := tk }) :
    wpAny (model prog w) A.in1 (Builtin.«list.__init__» ⟨[.ref S, .ref r], []⟩)
      (fun fin s' => match fin with | .done f => R (.ok f) s' | .again c' => c'.quiet = true ∧ codeAny (model prog w) A c' R s') (fun e s' => R (.error e) s') s := by
  have hSr : S ≠ r := fun e => by rw [e, hr] at hS; simp at hS
  show wpAny _ _ (do let old ← Builtin.List.listItems (.ref S); Builtin.List.listUpdate (.ref S) (fun _ => #[]); letGo old.toList.reverse; Builtin.List.listExtendWith (.ref S) (.ref r) .none) _ _ s
  refine wpAny_bind ?_
  unfold Builtin.List.listItems
  refine wpAny_bind (wpAny_seqItems hS rfl (wpAny_pure ?_))
  show wpAny _ _ (updateSeq S (fun _ => #[]) >>= fun _ => letGo (#[] : Array Value).toList.reverse >>= fun _ => Builtin.List.listExtendWith (.ref S) (.ref r) .none) _ _ s
  refine wpAny_bind (wpAny_updateSeq hS rfl ?_)
  have hS₂ := Heap.get?_update_self (Obj.mapSeq (fun _ => (#[] : Array Value))) hS rfl
  have oth : ∀ b o, b ≠ S → s.heap.get? b = some o → (s.heap.update S (Obj.mapSeq (fun _ => (#[] : Array Value)))).get? b = some o :=
    fun b o hb e => (Heap.get?_update_other _ _ (Ne.symm hb)).trans e
  refine wpAny_bind (wpAny_letGo ?_)
  refine ext_long hh (oth r _ (Ne.symm hSr) hr) hbig hn hlen S .none _ hS₂ fun h' tk acc' c' hk hS' hacc => ?_
  exact hR h' tk acc' c' (fun b o hb e => hk b o hb (oth b o hb e)) hS' hacc
theorem call_list_long {Q : Value → Shared → Prop} {r : Addr} {a b c : Int} {t u v : Tok} {n : Nat} (hh : A.handled = none) (hr : IsRange s.heap r a b c t u v)
    (hn : Builtin.Range.rangeSize a b c = n) (hlen : n ≤ 2 ^ 24)
    (hQ : ∀ h' tk acc' c', (∀ b o, s.heap.get? b = some o → h'.get? b = some o) →
      h'.get? s.heap.objs.size = some { cls := .type "list", dict := none, data := .seq acc' c', slots := #[] } → ItemsOf (fun i v => ∃ t, v = .int (a + i * c) t) acc' n → Q (.ref s.heap.objs.size) { s with heap := h', toks := tk }) :
    wpAny (model prog w) A (call (.type "list") [.ref r]) Q E s := by
  cases hbig : Builtin.Range.small a b c with
  | true => exact call_list_range hh hr hbig hn hlen hQ
  | false =>
    refine callType_codes (Q₁ := fun obj s₁ => obj = .ref s.heap.objs.size ∧ s₁ = { s with heap := s.heap.push { cls := .type "list", data := .seq #[] } }) F.called_list (F.typeCall_list_1 _) F.entry_list_init
      (code_list_new _ ⟨rfl, rfl⟩) fun obj s₁ h₁ => ?_
    obtain ⟨rfl, rfl⟩ := h₁
    have hS : (s.heap.push { cls := .type "list", data := .seq #[] }).get? s.heap.objs.size = some { cls := .type "list", data := .seq #[] } := Heap.get?_push_size _ rfl
    refine ⟨⟨_, hS, rfl⟩, F.args_list_init_2 _ _, init_long (A := A.in1) hh (Heap.get?_push_of_some _ hr) hbig hn hlen _ hS fun h' tk acc' c' hk hS' hacc => ?_⟩
    exact ⟨rfl, hQ h' tk acc' c' (fun b o e => hk b o (Nat.ne_of_lt (Heap.lt_size e)) (Heap.get?_push_of_some _ e)) hS' hacc⟩
end
/-- i, i + 1 .. j - 1 -/
def rgI (i j : Int) : List Int := (List.range (j - i).toNat).map fun k : Nat => i + (k : Nat) * 1
theorem rgI_len (i j : Int) : (rgI i j).length = (j - i).toNat := by unfold rgI; rw [List.length_map, List.length_range]
def kLR2 (Q : VK) : List V → Hp → Prop := fun vs H => ∃ i j : Int, vs = [.int i, .int j] ∧ (j - i).toNat ≤ 100000 ∧ kNew Q (.lst ((rgI i j).map V.int)) H
def tLR2 (ta : TA) : TE := fun σ H Q => ta σ H (kLR2 Q)
section
variable {X : Cx} {a b : Expr} {ta : TA} {p p2 pos pos2 : Pos}
theorem made_range2 (hg2 : Gl X "range") (hm2 : X.mg "range" = none) (ha : PA X [a, b] ta) (hs : starEach [a, b] X.env = (false, eval a X.env) :: starEach [b] X.env) (hpl : (backTo pos2 (starEach [b] X.env)).any (·.1) = false)
    {pins : List (Addr × Obj)} {s : Shared} {σ : L2.St} {H : Hp} {Q : VK} (I : Inv X pins σ H s) (h : ta σ H (kLR2 Q)) :
    wpAny (model X.prog X.w) X.A (eval (.Call (.Name "range" p2) [a, b] [] pos2) X.env) (fun x s' => ∃ r i j t u v H', x = .ref r ∧ IsRange s'.heap r i j 1 t u v ∧ Inv X pins σ H' s' ∧ (j - i).toNat ≤ 100000 ∧ kNew Q (.lst ((rgI i j).map V.int)) H') X.xe s := by
  refine PyProof.Rows.Call_ (ld_blt I hg2 hm2 PyProof.Rows.boot_range (PyProof.Rows.callWith_type1 (thn (ha.run pos2 pins s σ H _ I h) ?_) hs hpl))
  rintro us s1 ⟨vs, H1, I1, r1, i, j, e, hn, q⟩
  subst e
  obtain ⟨u1, u2, rfl, w1, w2⟩ := vals2 r1
  obtain ⟨t1, rfl⟩ := w1
  obtain ⟨t2, rfl⟩ := w2
  exact call_range_2 ⟨_, i, j, _, _, _, H1, rfl, IsRange.new _ _ _ _ _ _ _, I1.kept fun b u e => Heap.get?_push_of_some _ e, hn, q⟩
theorem pe_listR2 (hc : X.calm = true) (hg : Gl X "list") (hm : X.mg "list" = none) (hg2 : Gl X "range") (hm2 : X.mg "range" = none) (ha : PA X [a, b] ta)
    (hs : starEach [a, b] X.env = (false, eval a X.env) :: starEach [b] X.env := by rfl) (hpl : (backTo pos2 (starEach [b] X.env)).any (·.1) = false := by rfl)
    (na : starEach [.Call (.Name "range" p2) [a, b] [] pos2] X.env = (false, eval (.Call (.Name "range" p2) [a, b] [] pos2) X.env) :: starEach [] X.env := by rfl) :
    PE X (.Call (.Name "list" p) [.Call (.Name "range" p2) [a, b] [] pos2] [] pos) (tLR2 ta) := by
  refine ⟨fun pins s σ H Q I h => ?_⟩
  refine PyProof.Rows.Call_ (ld_blt I hg hm PyProof.Rows.boot_list (PyProof.Rows.callWith_type1 (PyProof.Rows.args_cons (thn (made_range2 hg2 hm2 ha hs hpl I h) ?_) na) na))
  rintro x s1 ⟨r, i, j, t, u, v, H1, rfl, hr, I1, hn, q⟩
  refine PyProof.Rows.args_nil (call_list_long (n := (j - i).toNat) (I1.ok.hd hc) hr (PyProof.Rows.rangeSize_nat i j) (Nat.le_trans hn (by decide)) ?_)
  intro h' tk acc c' hk e' hi
  have len : acc.toList.length = (j - i).toNat := by rw [Array.length_toList]; exact hi.1
  have hv : Vals ((rgI i j).map V.int) acc.toList := by
    unfold rgI
    rw [List.map_map, ← len]
    refine L2.vals_of_get acc.toList _ fun m w hw => hi.2 m w (by rw [← hw, Array.getElem?_toList])
  have okk : ObjOk X.prog X.w (upd H1 s1.heap.objs.size (.lst ((rgI i j).map V.int))) h' s1.heap.objs.size (.lst ((rgI i j).map V.int)) := ⟨by rw [List.length_map, rgI_len]; exact small_of hn, acc.toList, c', hv, by rw [Array.toArray_toList]; exact e'⟩
  exact ⟨.ref s1.heap.objs.size, _, I1.laid hk (Nat.le_refl _) okk, rfl, q.of _ (I1.hok.fresh (Nat.le_refl _))⟩
end
instance {tA : TA} {σ : L2.St} {H : Hp} {Q : VK} : Rd (tLR2 tA σ H Q) (tA σ H (kLR2 Q)) := ⟨fun h => h⟩
theorem rd_kLR2 {Q : VK} {H : Hp} {i j : Int} (hn : (j - i).toNat ≤ 100000) (q : kNew Q (.lst ((rgI i j).map V.int)) H) : kLR2 Q [.int i, .int j] H := ⟨i, j, rfl, hn, q⟩
theorem rgI_get {i j : Int} {k : Nat} (h : k < (j - i).toNat) : (rgI i j)[k]? = some (i + k) := by
  unfold rgI
  rw [List.getElem?_map, List.getElem?_range h, Option.map_some, Int.mul_one]
theorem rgI_mem {i j z : Int} : z ∈ rgI i j ↔ i ≤ z ∧ z < j := by
  unfold rgI
  rw [List.mem_map]
  constructor
  · rintro ⟨k, hk, rfl⟩
    have := List.mem_range.mp hk
    omega
  · rintro ⟨h1, h2⟩
    exact ⟨(z - i).toNat, List.mem_range.mpr (by omega), by omega⟩
theorem rgI_cons {i j : Int} (h : i < j) : rgI i j = i :: rgI (i + 1) j := by
  apply List.ext_getElem?
  intro k
  cases k with
  | zero => rw [rgI_get (by omega)]; simp
  | succ k =>
    rw [List.getElem?_cons_succ]
    by_cases hk : k + 1 < (j - i).toNat
    · rw [rgI_get hk, rgI_get (by omega)]
      congr 1
      omega
    · rw [List.getElem?_eq_none (by rw [rgI_len]; omega), List.getElem?_eq_none (by rw [rgI_len]; omega)]
theorem rgI_nil {i j : Int} (h : j ≤ i) : rgI i j = [] := by
  unfold rgI
  rw [show (j - i).toNat = 0 by omega]
  rfl
theorem rgI_app {i j k : Int} (h1 : i ≤ j) (h2 : j ≤ k) : rgI i j ++ rgI j k = rgI i k := by
  obtain ⟨n, hn⟩ : ∃ n : Nat, j = i + n := ⟨(j - i).toNat, by omega⟩
  induction n generalizing i with
  | zero =>
    have : j = i := by omega
    subst this
    rw [rgI_nil (Int.le_refl _)]
    rfl
  | succ n ih =>
    rw [rgI_cons (show i < j by omega), rgI_cons (show i < k by omega), List.cons_append, ih (by omega) (by omega)]
theorem rgI_asc (i j : Int) : (rgI i j).Pairwise (· < ·) := by
  obtain ⟨n, hn⟩ : ∃ n : Nat, j ≤ i + n := ⟨(j - i).toNat, by omega⟩
  induction n generalizing i with
  | zero => rw [rgI_nil (by omega)]; exact .nil
  | succ n ih =>
    by_cases h : i < j
    · rw [rgI_cons h]
      refine .cons (fun z hz => ?_) (ih (i + 1) (by omega))
      have := rgI_mem.mp hz
      omega
    · rw [rgI_nil (by omega)]; exact .nil
/-- lists that rise and have the same members -/
theorem asc_eq : ∀ (l m : List Int), l.Pairwise (· < ·) → m.Pairwise (· < ·) → (∀ k, k ∈ l ↔ k ∈ m) → l = m
  | [], [], _, _, _ => rfl
  | [], y :: ys, _, _, h => by have := (h y).mpr (by simp); cases this
  | x :: xs, [], _, _, h => by have := (h x).mp (by simp); cases this
  | x :: xs, y :: ys, h1, h2, h => by
    obtain ⟨a1, a2⟩ := List.pairwise_cons.mp h1
    obtain ⟨b1, b2⟩ := List.pairwise_cons.mp h2
    have e : x = y := by
      rcases List.mem_cons.mp ((h x).mp (by simp)) with z | z
      · exact z
      · rcases List.mem_cons.mp ((h y).mpr (by simp)) with w | w
        · exact w.symm
        · have := b1 x z
          have := a1 y w
          omega
    subst e
    rw [asc_eq xs ys a2 b2 fun k => ?_]
    constructor
    · intro hk
      rcases List.mem_cons.mp ((h k).mp (by simp [hk])) with z | z
      · have := a1 k hk; omega
      · exact z
    · intro hk
      rcases List.mem_cons.mp ((h k).mpr (by simp [hk])) with z | z
      · have := b1 k hk; omega
      · exact z
/-! ### sorted(set(xs)) -/
section
variable {P : Program} {w : World} {A : Around} {E : Value → Shared → Prop} {s : Shared}
set_option maxHeartbeats 3200000 in
theorem call_set_lstI {l : Addr} {items : Array Value} (ns : List Int) {Q : Value → Shared → Prop} (hh : A.handled = none) (hl : s.heap.IsList l items) (hit : PyProof.Rows.IntsAre items.toList ns) (hb : ns.length + 1 < scanBound)
    (h : ∀ (h' : Heap) (tk c : Nat), SetR w h' s.heap.objs.size (fun j => decide (j ∈ ns)) c → c ≤ ns.length → (∀ b o, s.heap.get? b = some o → h'.get? b = some o) → Q (.ref s.heap.objs.size) { s with heap := h', toks := tk }) :
    wpAny (model P w) A (call (.type "set") [.ref l]) Q E s := by
  have hisz : items.size = ns.length := by
    have q := PyProof.Rows.IntsAre.length hit
    rw [Array.length_toList] at q
    exact q
  obtain ⟨c, tl, hmro⟩ := F.called_set.mro
  have hmade := F.called_set.made
  have hsub := F.called_set.sub
  refine wpAny_call (codeAny_of_tree ?_)
  show wpAny _ _ (callAny (.type "set") _) _ _ _
  refine wpAny_pure ⟨Code.quiet_builtin _ (by decide +kernel), codeAny_builtin F.entry_type_call ?_⟩
  rw [Around.under_plain (weight_type_call_type "set" [.ref l] []) rfl]
  have h1 := F.called_set.notType
  have h2 := F.called_set.canCreate
  have hct := F.typeCall_set_1 (.ref l)
  repeat (any_goals (first | assumption | wp_step))
  refine codeAny_mono (code_set_led1 (.ref l) (E := E) (Q₁ := fun obj s₁ => obj = .ref s.heap.objs.size ∧ s₁ = { s with heap := s.heap.push { cls := .type "set", dict := none, data := .set #[] 0 (.fresh 0 0 (!w.params.followText "set-order")) } }) ⟨rfl, rfl⟩) fun r s₁ hr => ?_
  cases r with
  | error e => exact hr
  | ok fl =>
    cases fl with
    | ret obj =>
      obtain ⟨rfl, rfl⟩ := hr
      have hS : (s.heap.push { cls := .type "set", dict := none, data := .set #[] 0 (.fresh 0 0 (!w.params.followText "set-order")) }).get? s.heap.objs.size = some { cls := .type "set", dict := none, data := .set #[] 0 (.fresh 0 0 (!w.params.followText "set-order")) } := Heap.get?_push_size _ rfl
      have hT : Shared.TypeIs { s with heap := s.heap.push { cls := .type "set", dict := none, data := .set #[] 0 (.fresh 0 0 (!w.params.followText "set-order")) } } (.ref s.heap.objs.size) "set" := ⟨_, hS, rfl⟩
      have hli := F.called_set.init.lookup
      have hbi := F.called_set.init.bind (.ref s.heap.objs.size)
      repeat (any_goals (first | assumption | wp_step))
      refine codeAny_mono (codeAny_call_builtin (R := wants (fun r s₂ => r = .none ∧ ∃ h' tk c, s₂ = { s with heap := h', toks := tk } ∧ SetR w h' s.heap.objs.size (fun j => decide (j ∈ ns)) c ∧ c ≤ ns.length ∧
          (∀ b o, s.heap.get? b = some o → h'.get? b = some o)) E) F.called_set.init.plain F.entry_set_init (check_set_init_1 hT ?_)) fun r₂ s₂ hr₂ => ?_
      · obtain ⟨ol, hol, hcl, nl, hdl⟩ := hl
        obtain ⟨ocls, odict, odata, oslots⟩ := ol
        simp only at hcl hdl
        subst hcl; subst hdl
        have hol' : (s.heap.push { cls := .type "set", dict := none, data := .set #[] 0 (.fresh 0 0 (!w.params.followText "set-order")) }).get? l = some { cls := .type "list", dict := odict, data := .seq items nl, slots := oslots } := Heap.get?_push_of_some _ hol
        have hsls := F.sub_list_set
        have hslf := F.sub_list_frozenset
        have hne : (Value.type "list" == Value.type "dict") = false := by decide
        have hl1 : (s.heap.push { cls := .type "set", dict := none, data := .set #[] 0 (.fresh 0 0 (!w.params.followText "set-order")) }).IsList l items := ⟨_, hol', rfl, nl, rfl⟩
        unfold Builtin.«set.__init__» noKeywords Builtin.Frozenset.updateFrom
        generalize hPI : pyIter = PI
        wp_walk
        subst hPI
        refine wpAny_pyIter_list hl1 ?_
        refine wpAny_bind (wpAny_runValue ?_)
        have hlS : l < s.heap.objs.size := Heap.lt_size hol
        have hh3 : A.in1.in1.in1.handled = none := by simp [hh]
        have hneI : l ≠ (s.heap.push { cls := .type "set", dict := none, data := .set #[] 0 (.fresh 0 0 (!w.params.followText "set-order")) }).objs.size := by
          rw [Heap.size_push]; exact Nat.ne_of_lt (Nat.lt_succ_of_lt hlS)
        have hSf : s.heap.objs.size ∉ [(s.heap.push { cls := .type "set", dict := none, data := .set #[] 0 (.fresh 0 0 (!w.params.followText "set-order")) }).objs.size, l] := by
          rw [Heap.size_push]; simp only [List.mem_cons, List.mem_singleton, List.not_mem_nil, or_false, not_or]
          exact ⟨Nat.ne_of_lt (Nat.lt_succ_self _), Nat.ne_of_gt hlS⟩
        have hval : ∀ (i : Nat) (v : Value), items[i]? = some v → ∃ k t, ns[i]? = some k ∧ v = .int k t := fun i v hv => by
          have hi : i < ns.length := by rw [← hisz]; exact (Array.getElem?_eq_some_iff.mp hv).1
          obtain ⟨t, e⟩ := PyProof.Rows.IntsAre.int_at hit i v (by rw [Array.getElem?_toList]; exact hv)
          refine ⟨ns[i], t, List.getElem?_eq_getElem hi, ?_⟩
          rw [e, List.getD_eq_getElem?_getD, List.getElem?_eq_getElem hi] <;> rfl
        refine set_update_ints ((Walks.list hh3 _ l hneI items).toS) s.heap.objs.size
          hSf ns hisz hb hval (items.size - 0) 0 _ (by omega) (Nat.zero_le _)
          ⟨⟨_, Heap.get?_push_size _ rfl, rfl, rfl⟩, (hl1.push _)⟩ ?hS0 ?hR
        case hS0 =>
          have hget : ((s.heap.push { cls := .type "set", dict := none, data := .set #[] 0 (.fresh 0 0 (!w.params.followText "set-order")) }).push { cls := .type "list_iterator", data := .fields #[.ref l, .int 0 0] }).get? s.heap.objs.size
              = some { cls := .type "set", dict := none, data := .set #[] 0 (.fresh 0 0 (!w.params.followText "set-order")) } := Heap.get?_push_of_some _ hS
          exact ⟨0, Nat.le_refl 0, setR_new_at hget⟩
        case hR =>
          intro s' c' hm hc' hS'
          obtain ⟨h', g2, d', tk', os'⟩ := s'
          have eg : g2 = s.gens := hm.gens
          have ed : d' = s.drawn := hm.drawn
          have eo : os' = s.os := hm.os
          subst eg; subst ed; subst eo
          show wpAny _ _ _ _ _ _
          refine wpAny_pure ?_
          show wpAny _ _ (ret Value.none) _ _ _
          rw [hisz] at hc'
          refine wpAny_pure ⟨rfl, h', tk', c', rfl, hS', hc', fun b o e => ?_⟩
          have hb0 : b < s.heap.objs.size := Heap.lt_size e
          have hb1 : b ≠ s.heap.objs.size := Nat.ne_of_lt hb0
          have hb2 : b ≠ (s.heap.push { cls := .type "set", dict := none, data := .set #[] 0 (.fresh 0 0 (!w.params.followText "set-order")) }).objs.size := by
            rw [Heap.size_push]; exact Nat.ne_of_lt (Nat.lt_succ_of_lt hb0)
          exact hm.heap b o (by simp only [List.mem_cons, List.mem_singleton, List.not_mem_nil, or_false, not_or]; exact ⟨hb1, hb2⟩) (Heap.get?_push_of_some _ (Heap.get?_push_of_some _ e))
      · cases r₂ with
        | error e => exact hr₂
        | ok fl₂ =>
          cases fl₂ with
          | ret r =>
            obtain ⟨rfl, h', tk, c', rfl, hS', hc', hk'⟩ := hr₂
            repeat (any_goals (first | assumption | wp_step))
            exact h _ _ _ hS' hc' hk'
          | _ => exact hr₂.elim
    | _ => exact hr.elim
end
def kSortS (K : PySem.W.Frag) (Q : VK) : VK := fun x H => ∃ (p : Addr) (ns : List Int), x = .ref p ∧ OB H p (.lst (ns.map V.int)) ∧ ns.length < 64 ∧ ∀ ms : List Int, ms.Pairwise (· < ·) → (∀ k, k ∈ ms ↔ k ∈ ns) → kNew Q (.lst (ms.map V.int)) H
def tSortS (K : PySem.W.Frag) (ta : TE) : TE := fun σ H Q => ta σ H (kSortS K Q)
theorem pe_sortedSet {X : Cx} {K : PySem.W.Frag} {a : Expr} {ta : TE} {p p2 q pos : Pos} (hK : X.K = K) (hc : X.calm = true) (hg : Gl X "sorted") (hm : X.mg "sorted" = none) (hg2 : Gl X "set") (hm2 : X.mg "set" = none) (ha : PE X a ta)
    (na : starEach [a] X.env = (false, eval a X.env) :: starEach [] X.env := by rfl) : PE X (.Call (.Name "sorted" p) [.Call (.Name "set" p2) [a] [] q] [] pos) (tSortS K ta) := by
  subst hK
  refine ⟨fun pins s σ H Q I h => ?_⟩
  refine PyProof.Rows.Call_ (ld_blt I hg hm PyProof.Rows.boot_sorted ?_)
  refine PyProof.Rows.callWith_builtin1 (PyProof.Rows.args_cons ?_ rfl) rfl rfl
  refine PyProof.Rows.Call_ (ld_blt I hg2 hm2 PyProof.Rows.boot_set ?_)
  refine PyProof.Rows.callWith_type1 (PyProof.Rows.args_cons (thn (ha.run pins s σ H _ I h) fun v s1 ⟨x, H1, I1, r1, q1⟩ => PyProof.Rows.args_nil ?_) na) na rfl
  obtain ⟨l, ns, rfl, o, h64, q1⟩ := q1
  cases r1
  obtain ⟨its, r, pl, hz⟩ := I1.list (OB.sq (K := X.K) o)
  refine call_set_lstI ns (I1.ok.hd hc) pl.isList (by simpa using r.ints) (by unfold scanBound; omega) fun h' tk c R hcl hk => ?_
  refine PyProof.Rows.args_nil ?_
  have I2 : Inv X pins σ H1 { s1 with heap := h', toks := tk } := I1.kept hk
  refine sorted_set R (I2.ok.hd hc) (by omega) fun s' p out c ms k g o hp hg hi hs hm hl => ?_
  have hlen : (ms.map V.int).length ≤ sizeLine := by rw [List.length_map, hl, sizeLine_eq]; omega
  have hn : H1 p = none := I2.hok.fresh hp
  have J : Inv X pins σ (upd H1 p (.lst (ms.map V.int))) { ({ s1 with heap := h', toks := tk } : Shared) with heap := s'.heap, gens := s'.gens, drawn := s'.drawn, toks := s'.toks } :=
    I2.call (ch := []) (Un.laid k hp hn) (I2.hok.laid k hp ⟨hlen, out.toList, c, vals_of_ints hi, hg⟩) (by rw [g]; exact I2.bare) (fun _ z => nomatch z)
  have e : s' = { ({ s1 with heap := h', toks := tk } : Shared) with heap := s'.heap, gens := s'.gens, drawn := s'.drawn, toks := s'.toks } := by
    cases s'
    cases s1
    cases o
    rfl
  rw [e]
  exact ⟨.ref p, _, J, rfl, (q1 ms hs (fun k => (hm k).trans decide_eq_true_iff)).of p hn⟩
instance {K : PySem.W.Frag} {te : TE} {σ : L2.St} {H : Hp} {Q : VK} : Rd (tSortS K te σ H Q) (te σ H (kSortS K Q)) := ⟨fun h => h⟩
theorem rd_sortS {K : PySem.W.Frag} {H : Hp} {Q : VK} {p : Addr} {xs : List V} {ns : List Int} [o : OB H p (.lst xs)] [e : ILs xs ns] (h64 : ns.length < 64) (asc : ns.Pairwise (· < ·)) (q : kNew Q (.lst (ns.map V.int)) H) : kSortS K Q (.ref p) H :=
  ⟨p, ns, rfl, ob_ints e o, h64, fun ms h1 h2 => by rw [asc_eq ms ns h1 asc h2]; exact q⟩
/-! ### lambdas with parameters, kept and handed on -/
open LamX NdefX in
/-- the object at f is the lambda of the words F and the body e -/
def LamO (f : Addr) (F : NF) (e : Expr) : HO := .ext fun h => ∃ pm ctv : Value, h.get? f = some (PySem.W.kla_obj F.name F.qual F.params e F.scope F.cl pm F.c ctv)
open LamX NdefX in
theorem lamO_at {P : Program} {w : World} {H : Hp} {h : Heap} {f : Addr} {F : NF} {e : Expr} (hok : HOk P w H h) (z : H f = some (LamO f F e)) : ∃ pm ctv : Value, h.get? f = some (PySem.W.kla_obj F.name F.qual F.params e F.scope F.cl pm F.c ctv) := by
  obtain ⟨z, _, _⟩ := hok f _ z
  exact z
section
open LamX NdefX PyProof.Rows
variable {X : Cx} {pins : List (Addr × Obj)} {σ : L2.St} {H : Hp} {s : Shared}
theorem inv_lam {F : NF} {e : Expr} {t' : Nat} {pm ctv : Value} (I : Inv X pins σ H s) :
    Inv X pins σ (upd H s.heap.objs.size (LamO s.heap.objs.size F e)) { s with heap := s.heap.push (PySem.W.kla_obj F.name F.qual F.params e F.scope F.cl pm F.c ctv), toks := t' } := by
  refine I.laid (a := s.heap.objs.size) (fun b u z => Heap.get?_push_of_some _ z) (Nat.le_refl _) ?_
  have z : (s.heap.push (PySem.W.kla_obj F.name F.qual F.params e F.scope F.cl pm F.c ctv)).get? s.heap.objs.size = some (PySem.W.kla_obj F.name F.qual F.params e F.scope F.cl pm F.c ctv) := Heap.get?_push_size _ rfl
  exact ⟨⟨pm, ctv, z⟩, ⟨_, z⟩, fun h1 h2 ⟨p, t, y⟩ st => ⟨p, t, st _ y⟩⟩
/-- the lambda's words, made in X -/
abbrev mkL (X : Cx) (params : Arguments) (scope : Scope) (c' : Addr) : NF := ⟨"<lambda>", X.env.qual ++ "<lambda>", params, [], scope, cloFrom X.env.cells scope.names [], c'⟩
theorem lam_makeF {T : List (Addr × Str)} {c P : Addr} {params : Arguments} {body : Expr} {scope : Scope} {pos : Pos} {E : Value → Shared → Prop} {Q : Value → Shared → Prop} (I : Inv X pins σ H s) (TB : TabB X.base X.mg c P) (hcode : X.env.code = .ref c)
    (hm : (P, X.env.qual ++ "<lambda>") ∈ T) (hu : ∀ p ∈ T, p.1 = P → p.2 = X.env.qual ++ "<lambda>") (hT : Tabs T H) (hdef : defaultsOf params X.env = ([], [])) (hfree : ∀ y ∈ scope.names, y.2 = .free → ∃ c, X.env.cells.lookup y.1 = some c)
    (h : ∀ (f c' : Addr) (H1 : Hp) (s' : Shared), Inv X pins σ H1 s' → ExtN H H1 → (∀ b, H1 b = Option.none → H b = Option.none) → Tabs T H1 → H f = none → H1 f = some (LamO f (mkL X params scope c') body) → H1 c' = some (CodeO c' (X.env.qual ++ "<lambda>")) → Q (.ref f) s') :
    wpAny (model X.prog X.w) X.A (eval (.Lambda params body scope pos) X.env) Q E s := by
  obtain ⟨ps, hP, ht, ha⟩ := hT _ hm
  refine PySem.W.kla_eval hdef ?_
  have bP : s.heap.BuiltinsAt X.mg P := TB.bm.keeps I.bk
  have hP' : s.heap.get? P = some { cls := .none, data := .fields ps } := I.hok P _ hP
  cases hc : codeAmong pos ps.toList with
  | none =>
    refine PySem.W.kla_makeFunction (mg := X.mg) (c := c) (P := P) (ps := ps) (closure_ok hfree) I.ok.glob (I.mod.glob.keeps I.bk) hcode (TB.code.keeps I.bk) hP' ht hc TB.gP bP fun c' ctv h' tk hx hge hlt hrec htb => ?_
    obtain ⟨c2, oc, vs, t, e2, hoc, hd, hv⟩ := hrec
    cases e2
    have nC : H c' = none := I.hok.fresh hge
    have I1 := inv_table (t' := tk) (more := #[rawInt pos.line, rawInt pos.col, .ref c']) (h' := h') I hP (fun b o hb e => hx b o hb e) htb hge ⟨oc, vs, t, hoc, hd, hv⟩
    have hE : ExtN H (upd (upd H P (.tbl (ps ++ #[rawInt pos.line, rawInt pos.col, .ref c']))) c' (CodeO c' (X.env.qual ++ "<lambda>"))) := fun b o e n => by
      rw [upd_ne (ne_of_none e nC), upd_ne (fun z => n ps (Option.some.inj (e.symm.trans (by rw [z]; exact hP))))]
      exact e
    have eL : (ps ++ #[rawInt pos.line, rawInt pos.col, .ref c']).toList = ps.toList ++ [rawInt pos.line, rawInt pos.col, .ref c'] := by simp
    have T1 : Tabs T (upd (upd H P (.tbl (ps ++ #[rawInt pos.line, rawInt pos.col, .ref c']))) c' (CodeO c' (X.env.qual ++ "<lambda>"))) := fun p hp => by
      by_cases hb : p.1 = P
      · rw [hu p hp hb, hb]
        refine ⟨_, by rw [upd_ne (ne_of_none hP nC), upd_same], by rw [eL]; exact PySem.TriplesOk_snoc _ _ _ _ ht, fun p' cv hcv => ?_⟩
        rw [eL] at hcv
        rcases among_app _ ht hcv with z | z
        · obtain ⟨c0, e1, e2⟩ := ha p' cv z
          exact ⟨c0, e1, hE _ _ e2 codeO_ne⟩
        · exact ⟨c', z, upd_same⟩
      · obtain ⟨ps', a1, a2, a3⟩ := hT p hp
        refine ⟨ps', by rw [upd_ne (ne_of_none a1 nC), upd_ne hb]; exact a1, a2, fun p' cv hcv => ?_⟩
        obtain ⟨c0, e1, e2⟩ := a3 p' cv hcv
        exact ⟨c0, e1, hE _ _ e2 codeO_ne⟩
    have nF := I1.hok.fresh (Nat.le_refl _)
    have I2 := inv_lam (F := mkL X params scope c') (e := body) (t' := tk) (pm := (X.mg "__name__").getD .none) (ctv := ctv) I1
    refine h h'.objs.size c' _ _ I2 (fun b o e n => ?_) (fun b e => upd_none (upd_none (upd_none e))) (T1.ext fun b o e => ?_) (I.hok.fresh (Nat.le_trans hge (Nat.le_of_lt hlt))) upd_same ?_
    · have e1 := hE b o e n
      exact (upd_ne (ne_of_none e1 nF)).trans e1
    · exact (upd_ne (ne_of_none e nF)).trans e
    · exact (upd_ne (Nat.ne_of_lt hlt)).trans upd_same
  | some cv =>
    obtain ⟨c', e, hco⟩ := ha pos cv hc
    subst e
    refine PySem.W.kla_makeFunctionHit (mg := X.mg) (c := c) (P := P) (ps := ps) (closure_ok hfree) I.ok.glob (I.mod.glob.keeps I.bk) hcode (TB.code.keeps I.bk) hP' ht hc bP fun ctv h' tk hx hsz => ?_
    have I1 : Inv X pins σ H { s with heap := h', toks := tk } := I.kept hx
    have nF : H h'.objs.size = none := I1.hok.fresh (Nat.le_refl _)
    have I2 := inv_lam (F := mkL X params scope c') (e := body) (t' := tk) (pm := (X.mg "__name__").getD .none) (ctv := ctv) I1
    refine h h'.objs.size c' _ _ I2 (fun b o e n => ?_) (fun b e => upd_none e) (hT.ext fun b o e => ?_) nF upd_same ?_
    · exact (upd_ne (ne_of_none e nF)).trans e
    · exact (upd_ne (ne_of_none e nF)).trans e
    · exact (upd_ne (ne_of_none hco nF)).trans hco
end
/-! ### what stands still while tables grow -/
/-- all but the tables stays, nothing is gone -/
class SN (H : Hp) (G : outParam Hp) : Prop where
  s : ∀ b o, G b = some o → (∀ ps, o ≠ .tbl ps) → H b = some o
  n : ∀ b, H b = none → G b = none
class NT (o : HO) : Prop where h : ∀ ps, o ≠ .tbl ps
instance {xs : List V} : NT (.lst xs) := ⟨fun _ z => by cases z⟩
instance {xs : List V} : NT (.tup xs) := ⟨fun _ z => by cases z⟩
instance {C dx fs} : NT (.ins C dx fs) := ⟨fun _ z => by cases z⟩
instance {f F e} : NT (LamO f F e) := ⟨fun _ z => by unfold LamO at z; cases z⟩
instance {c q} : NT (LamX.CodeO c q) := ⟨LamX.codeO_ne⟩
instance (priority := 150) OB.monoN {H G : Hp} {q : Addr} {u : HO} [a : SN H G] [b : OB G q u] [n : NT u] : OB H q u := ⟨a.s q u b.h n.h⟩
class TBS (T : List (Addr × Str)) (H : Hp) : Prop where h : LamX.Tabs T H
instance (priority := 200) TBS.mono {T : List (Addr × Str)} {H G : Hp} [a : SM H G] [b : TBS T G] : TBS T H := ⟨b.h.ext a.s⟩
/-- a lambda at f, its code object known -/
structure LamAt (H : Hp) (f : Addr) (F : NdefX.NF) (e : Expr) : Prop where
  o : H f = some (LamO f F e)
  c : H F.c = some (LamX.CodeO F.c F.qual)
def tLamb (T : List (Addr × Str)) (mk : Addr → NdefX.NF) (e : Expr) : TE := fun σ H Q => LamX.Tabs T H ∧ ∀ (f c' : Addr) (H1 : Hp), SN H1 H → TBS T H1 → FR0 H f → OB H1 f (LamO f (mk c') e) → OB H1 (mk c').c (LamX.CodeO (mk c').c (mk c').qual) → Q (.ref f) H1
section
open LamX NdefX PyProof.Rows
variable {X : Cx}
/-- «lambda x: e» -/
theorem pe_lam {T : List (Addr × Str)} {c P : Addr} {params : Arguments} {body : Expr} {scope : Scope} {pos : Pos} (TB : TabB X.base X.mg c P) (hcode : X.env.code = .ref c) (hm : (P, X.env.qual ++ "<lambda>") ∈ T) (hu : ∀ p ∈ T, p.1 = P → p.2 = X.env.qual ++ "<lambda>")
    (hdef : defaultsOf params X.env = ([], [])) (hfree : ∀ y ∈ scope.names, y.2 = .free → X.env.scope.names.lookup y.1 = some .cell ∨ X.env.scope.names.lookup y.1 = some .free) : PE X (.Lambda params body scope pos) (tLamb T (mkL X params scope) body) := by
  refine ⟨fun pins s σ H Q I h => ?_⟩
  refine lam_makeF I TB hcode hm hu h.1 hdef (fun y hy e => (hfree y hy e).elim (fun z => I.ok.has _ (.inl z)) fun z => I.ok.has _ (.inr z)) fun f c' H1 s' I1 eN nn T1 f0 f1 c1 => ?_
  exact ⟨.ref f, H1, I1, rfl, h.2 f c' H1 ⟨fun b o e n => eN b o e n, nn⟩ ⟨T1⟩ ⟨f0⟩ ⟨f1⟩ ⟨c1⟩⟩
end
/-! ### a lambda's promise -/
section
open LamX NdefX PyProof.Rows
/-- the promise of the lambda (F, e) at f, its captured cells within base -/
def LamP (P : Program) (w : World) (K : PySem.W.Frag) (mg : Str → Option Value) (base : Heap) (k : Nat) (f : Addr) (F : NF) (e : Expr) (sp : Sp) : Prop :=
  ∀ (A : Around) (outer : List Env) (s : Shared) (H : Hp) (us : List Value) (vs : List V) (Q : VK) (E : XK), Room k A → Env0 P w K mg base A outer s H → H f = some (LamO f F e) → H F.c = some (CodeO F.c F.qual) → Vals vs us → sp vs H Q E →
    codeAny (model P w) A (.call (.ref f) ⟨us, []⟩) (CR (L2.CX P w) outer P w H s Q E) s
variable {P : Program} {w : World} {K : PySem.W.Frag} {mg : Str → Option Value} {base : Heap} {N ps fr : List Str} {F : NF} {e : Expr} {f : Addr} {k j : Nat} {sp : Sp} {ws : List (Option V)}
theorem LamP.mono (o : LamP P w K mg base j f F e sp) (h : j ≤ k) : LamP P w K mg base k f F e sp := fun A outer s H us vs Q E hr => o A outer s H us vs Q E (hr.mono h)
theorem cells_up {cl : List (Str × Addr)} {A : Around} {outer : List Env} {s : Shared} {H : Hp} (C : CellsAt cl fr ws base fun _ => none) (e0 : Env0 P w K mg base A outer s H) : CellsAt cl fr ws s.heap H := by
  have up : ∀ {c : Addr} {v : Option Value}, base.IsCell c v → s.heap.IsCell c v := fun {c v} ⟨o, ho, hd⟩ => ⟨o, (e0.bs c o ho).1, hd⟩
  refine ⟨C.len, fun y c z => ?_, C.inj, fun i y z => ?_⟩
  · obtain ⟨_, v, h⟩ := C.all y c z
    have h' := h
    obtain ⟨o, ho, _⟩ := h'
    exact ⟨(e0.bs c o ho).2, v, up h⟩
  · obtain ⟨c, h1, h2⟩ := C.has i y z
    refine ⟨c, h1, fun v hv => ?_⟩
    obtain ⟨u, r, h⟩ := h2 v hv
    exact ⟨u, r, up h⟩
theorem lamP_of (S : NScope N ps fr F.scope) (C : CellsAt F.cl fr ws base fun _ => none) (hb : ∀ (pm ctv : Value) (us : List Value), us.length = ps.length → bindArgs (PySem.W.kla_fn F.name F.qual F.params e F.scope F.cl pm (.ref F.c) ctv) ⟨us, []⟩ = pure (ps.zip us)) (len : ∀ vs H Q E, sp vs H Q E → vs.length = ps.length)
    (hbody : ∀ (A : Around) (outer : List Env) (s : Shared) (H : Hp) (vs : List V) (Q : VK) (E : XK), Room k (A.deeper (envF F f s.heap.objs.size)) → sp vs H Q E → ∃ t, PE (ncx (L2.CX P w) P w K mg base N F f A outer s H E) e t ∧ t (startF N vs ws) H Q) :
    LamP P w K mg base (k + 1) f F e sp := by
  intro A outer s H us vs Q E hr e0 hf hc r hsp
  have hl := len _ _ _ _ hsp
  have lim : s.heap.NoLimit := e0.mod.nolimit.keeps fun b o e => (e0.bs b o e).1
  obtain ⟨pm, ctv, ho⟩ := lamO_at e0.hok hf
  refine PySem.W.kla_callFunE hr.depth ho rfl S.co S.gen rfl (codeO_at e0.hok hc) ?_
  rw [hb pm ctv us (by rw [← r.length]; exact hl)]
  refine wpAny_pure (wpAny_newFunctionEnv S.nocell (fun ⟨n, _⟩ hy => S.par n (List.of_mem_zip hy).1) (fun h₁ hns hsb => ⟨lim.fresh _ hsb, ?_⟩) S.kind)
  show codeAny _ _ (.expr e (envF F f s.heap.objs.size)) _ _
  have kp : ∀ b o, s.heap.get? b = some o → h₁.get? b = some o := fun b o e => hsb.extBut b o (Nat.ne_of_lt (Heap.lt_size e)) (Heap.get?_push_of_some _ e)
  obtain ⟨t, ht, hq⟩ := hbody A outer s H vs Q E (hr.deeper _) hsp
  have I : Inv (ncx (L2.CX P w) P w K mg base N F f A outer s H E) [] (startF N vs ws) H { s with heap := h₁, toks := s.toks + (ps.zip us).length } := inv_startN S hr.hd e0 hl r (cells_up C e0) hns kp
  refine PySem.W.kla_codeExpr (wpAny_mono (ht.run [] _ (startF N vs ws) H Q I hq) (fun v s' hq => ?_) fun e s' hq => hq)
  obtain ⟨w', H', J', rv, q⟩ := hq
  exact ⟨w', H', J'.os, J'.bare, J'.base, J'.hok, rv, q⟩
/-- of the maker's cells, those that the lambda captured -/
theorem cells_clo {cl : List (Str × Addr)} {names : List (Str × NameKind)} {fr' : List Str} {ws' : List (Option V)} {h : Heap} {H : Hp} (C : CellsAt cl fr ws h H) (hfree : ∀ y ∈ names, y.2 = .free → ∃ c, cl.lookup y.1 = some c) (hl : ws'.length = fr'.length)
    (hi : ∀ (i : Nat) (y : Str), fr'[i]? = some y → (y, NameKind.free) ∈ names ∧ ∃ j : Nat, fr[j]? = some y ∧ ∀ v, ws'[i]? = some (some v) → ws[j]? = some (some v)) : CellsAt (cloFrom cl names []) fr' ws' h H := by
  refine ⟨hl, fun y c z => C.all y c (clo_cm hfree z), fun x y c z1 z2 => C.inj x y c (clo_cm hfree z1) (clo_cm hfree z2), fun i y z => ?_⟩
  obtain ⟨hm, j, h1, h2⟩ := hi i y z
  obtain ⟨c, h3, h4⟩ := C.has j y h1
  exact ⟨c, clo_has hfree hm h3, fun v hv => h4 v (h2 v hv)⟩
theorem cells_have {cl : List (Str × Addr)} {h : Heap} {H : Hp} {y : Str} (C : CellsAt cl fr ws h H) (hy : y ∈ fr) : ∃ c, cl.lookup y = some c := by
  obtain ⟨i, hi⟩ := List.mem_iff_getElem?.mp hy
  obtain ⟨c, hc, _⟩ := C.has i y hi
  exact ⟨c, hc⟩
end
/-! ### the call of a thing that was handed in -/
def tAsk (P : Program) (w : World) (K : PySem.W.Frag) (mg : Str → Option Value) (base : Heap) (k i : Nat) (W : WX) (t : TA) : TE := fun σ H Q => ∃ f F e, σ[i]? = some (some (.ref f)) ∧ H f = some (LamO f F e) ∧
  t σ H fun vs H1 => ∃ sp, H1 f = some (LamO f F e) ∧ H1 F.c = some (LamX.CodeO F.c F.qual) ∧ LamP P w K mg base k f F e sp ∧ sp vs H1 Q (WE W σ)
section
open LamX NdefX PyProof.Rows
variable {X : Cx} {k j i : Nat} {x : Str} {t : TA} {e : Expr} {es : List Expr} {p pos : Pos}
theorem lamFnAt {pins : List (Addr × Obj)} {σ : L2.St} {H : Hp} {s : Shared} {f : Addr} {F : NF} {e : Expr} (I : Inv X pins σ H s) (z : H f = some (LamO f F e)) : PySem.W.FnAt f s.heap := by
  obtain ⟨pm, ctv, ho⟩ := lamO_at I.hok z
  exact ⟨_, _, _, _, ho⟩
theorem pe_ask0 (hr : Room j X.A) {W : WX} (tk : Takes X W) (hN : X.N[i]? = some x) (hv : Vis X.env.scope x) (ha : PA X (e :: es) t) (hk : k ≤ j := by decide)
    (hd : (x == ("__debug__" : Str)) = false := by decide) (hcd : (x == ("__classdict__" : Str)) = false := by decide)
    (he : starEach (e :: es) X.env = (false, eval e X.env) :: starEach es X.env := by rfl) (hpl : (backTo pos (starEach es X.env)).any (·.1) = false := by rfl) :
    PE X (.Call (.Name x p) (e :: es) [] pos) (tAsk X.prog X.w X.K X.mg X.base k i W t) := by
  refine ⟨fun pins s σ H Q I h => ?_⟩
  obtain ⟨f, F, eb, hs, hf, ht⟩ := h
  refine wpAny_Call_Name_kw (thn ((pe_var (pos := p) hN hv hd hcd).run pins s σ H (fun v H1 => v = .ref f ∧ H1 = H) I ⟨.ref f, hs, rfl, rfl⟩) fun u s1 ⟨v, H1, I1, r1, q1⟩ => ?_)
  obtain ⟨ev, eH⟩ := q1
  subst ev
  rw [eH] at I1
  obtain rfl : u = Value.ref f := r1
  refine PySem.W.callWith_F (first := []) (lamFnAt I1 hf) (thn (ha.run pos pins s1 σ H _ I1 ht) fun us s2 ⟨vs, H2, I2, r, sp, h1, h2, Lp, q⟩ => ⟨lamFnAt I2 h1, ?_⟩) he hpl
  show wpAny _ _ (call (.ref f) us) _ _ _
  refine wpAny_call (codeAny_mono (Lp X.A X.stack s2 H2 us vs Q _ (hr.mono hk) I2.env0 h1 h2 r q) fun r s' hq => ?_)
  cases r with
  | error e => exact passAt tk σ pins H2 s2 e s' I2 hq
  | ok fl =>
    cases fl with
    | ret u => exact I2.after hq
    | next => exact False.elim hq
    | brk => exact False.elim hq
    | cont => exact False.elim hq
theorem pe_ask {P : Program} {w : World} {K : PySem.W.Frag} {mg : Str → Option Value} {base : Heap} (h1 : X.prog = P) (h2 : X.w = w) (h3 : X.K = K) (h4 : X.mg = mg) (h5 : X.base = base) (hr : Room j X.A) {W : WX} (tk : Takes X W) (hN : X.N[i]? = some x) (hv : Vis X.env.scope x) (ha : PA X (e :: es) t) (hk : k ≤ j := by decide)
    (hd : (x == ("__debug__" : Str)) = false := by decide) (hcd : (x == ("__classdict__" : Str)) = false := by decide)
    (he : starEach (e :: es) X.env = (false, eval e X.env) :: starEach es X.env := by rfl) (hpl : (backTo pos (starEach es X.env)).any (·.1) = false := by rfl) :
    PE X (.Call (.Name x p) (e :: es) [] pos) (tAsk P w K mg base k i W t) := by
  subst h1 h2 h3 h4 h5
  exact pe_ask0 hr tk hN hv ha hk hd hcd he hpl
end
/-! ### a def that gets lambdas: its base holds the caller's cells, too -/
section
open LamX NdefX PyProof.Rows
open Classical in
noncomputable def bigger (base h : Heap) (cl : List (Str × Addr)) : Heap := hidT h fun b => if (base.get? b).isSome = true ∨ (∃ x, cl.lookup x = some b) then none else some (.lst [])
variable {base h : Heap} {cl : List (Str × Addr)}
theorem bigger_base (k : ∀ b o, base.get? b = some o → h.get? b = some o) : ∀ b o, base.get? b = some o → (bigger base h cl).get? b = some o := fun b o e => hidT_get (k b o e) (if_pos (.inl (by rw [e]; rfl)))
theorem bigger_cell {c : Addr} {o : Obj} {x : Str} (m : cl.lookup x = some c) (e : h.get? c = some o) : (bigger base h cl).get? c = some o := hidT_get e (if_pos (.inr ⟨x, m⟩))
theorem of_bigger {b : Addr} {o : Obj} (e : (bigger base h cl).get? b = some o) : h.get? b = some o ∧ ((base.get? b).isSome = true ∨ ∃ x, cl.lookup x = some b) := by
  obtain ⟨e1, e2⟩ := of_hidT e
  refine ⟨e1, ?_⟩
  by_cases z : (base.get? b).isSome = true ∨ (∃ x, cl.lookup x = some b)
  · exact z
  · rw [if_neg z] at e2
    cases e2
theorem funs_base {b2 : Heap} : ∀ {l : List Env}, (∀ b ∈ frs l, b2.get? b = none) → h.FunFrames base l → h.FunFrames b2 l
  | [], _, _ => trivial
  | env :: rest, n, ⟨hk, ⟨L, o, hf, _, ho, hd⟩, hr⟩ => ⟨hk, ⟨L, o, hf, n L (List.mem_filterMap.mpr ⟨env, List.mem_cons_self, hf⟩), ho, hd⟩, funs_base (fun b hb => n b (by
    obtain ⟨x, hx, e⟩ := List.mem_filterMap.mp hb
    exact List.mem_filterMap.mpr ⟨x, List.mem_cons_of_mem _ hx, e⟩)) hr⟩
variable {X : Cx} {pins : List (Addr × Obj)} {σ : L2.St} {H : Hp} {s : Shared}
theorem env_bigger (I : Inv X pins σ H s) (hfn : ∀ x, X.fn x = true) : Env0 X.prog X.w X.K X.mg (bigger X.base s.heap X.env.cells) X.A X.stack s H := by
  have e0 := I.env0
  have up : ∀ b o, X.base.get? b = some o → (bigger X.base s.heap X.env.cells).get? b = some o := bigger_base I.bk
  obtain ⟨mb, hb1, hb2⟩ := e0.mod.blt
  have M : Mod X.K X.mg (bigger X.base s.heap X.env.cells) := ⟨fun b o e => up b o (e0.mod.kin b o e), e0.mod.glob.keeps up, ⟨mb, hb1.keeps up, hb2⟩, e0.mod.nolimit.keeps up⟩
  refine ⟨e0.frames, M, fun b o e => ?_, Nat.le_of_eq (hidT_size _ _), funs_base (fun b hb => ?_) e0.funs, e0.frf, e0.hok, e0.bare⟩
  · obtain ⟨e1, e2⟩ := of_bigger e
    refine ⟨e1, ?_⟩
    rcases e2 with z | ⟨x, z⟩
    · obtain ⟨o', z'⟩ := Option.isSome_iff_exists.mp z
      exact (I.bs b o' z').2
    · exact I.freeC x b z
  · cases e : (bigger X.base s.heap X.env.cells).get? b with
    | none => rfl
    | some o =>
      obtain ⟨e1, e2⟩ := of_bigger e
      exfalso
      rcases e2 with z | ⟨x, z⟩
      · rw [(e0.funs.mem hb).1] at z
        cases z
      · obtain ⟨v, oc, hoc, hd⟩ := I.cell x b z
        rcases List.mem_cons.mp (I.stkSub _ hb) with y | y
        · obtain ⟨m, ⟨o2, es, ep, h1, h2, _⟩, _⟩ := I.loc
          rw [← y, hoc] at h1
          cases h1
          rw [hd] at h2
          cases h2
        · obtain ⟨o2, h1, _⟩ := (I.ok.funs.mem y).2
          exact Nat.lt_irrefl _ (Nat.lt_of_lt_of_le (Heap.lt_size h1) (I.ok.cab x b (hfn x) z))
theorem cells_bigger {fr : List Str} {ws : List (Option V)} (C : CellsAt X.env.cells fr ws s.heap H) : CellsAt X.env.cells fr ws (bigger X.base s.heap X.env.cells) fun _ => none := by
  have up : ∀ {x : Str} {c : Addr} {v : Option Value}, X.env.cells.lookup x = some c → s.heap.IsCell c v → (bigger X.base s.heap X.env.cells).IsCell c v := fun {x c v} e ⟨o, ho, hd⟩ => ⟨o, bigger_cell e ho, hd⟩
  refine ⟨C.len, fun y c z => ?_, C.inj, fun i y z => ?_⟩
  · obtain ⟨_, v, h⟩ := C.all y c z
    exact ⟨rfl, v, up z h⟩
  · obtain ⟨c, h1, h2⟩ := C.has i y z
    refine ⟨c, h1, fun v hv => ?_⟩
    obtain ⟨u, r, h⟩ := h2 v hv
    exact ⟨u, r, up h1 h⟩
theorem caps_all {fr : List Str} {js : List Nat} (hk : ∀ y ∈ fr, X.env.scope.names.lookup y = some .cell ∨ X.env.scope.names.lookup y = some .free) (hj : js.map (fun j => X.N[j]?) = fr.map some) : Caps X X.env.cells fr js := ⟨fun _ _ e => e, hk, fun _ _ _ e => e, hj⟩
end
/-- the callee's promise, told of each base that holds the running frame's cells -/
def tFnB (cl : List (Str × Addr)) (fr : List Str) (js : List Nat) (sp : Heap → Sp) (E : XK) (t : TA) : TE := fun σ H Q => t σ H fun vs H1 => ∀ base' : Heap, NdefX.CellsAt cl fr (js.map (NdefX.slotAt σ)) base' (fun _ => none) → sp base' vs H1 Q E
section
open LamX NdefX PyProof.Rows
variable {X : Cx} {k j : Nat} {x : Str} {ps fr : List Str} {js : List Nat} {sp : Heap → Sp} {t : TA} {e : Expr} {es : List Expr} {p pos : Pos}
theorem pe_fnB (F : ∀ base', Fn X.prog X.w X.K X.mg base' x ps j (sp base')) (hr : Room k X.A) (hfn : ∀ x, X.fn x = true) (cp : Caps X X.env.cells fr js) (hg : Gl X x) (ha : PA X (e :: es) t) (hl : j ≤ k := by decide) (hdb : (x == ("__debug__" : Str)) = false := by decide)
    (he : starEach (e :: es) X.env = (false, eval e X.env) :: starEach es X.env := by rfl) (hpl : (backTo pos (starEach es X.env)).any (·.1) = false := by rfl) : PE X (.Call (.Name x p) (e :: es) [] pos) (tFnB X.env.cells fr js sp E0 t) := by
  obtain ⟨f, _, hm, _, _, kp⟩ := (F X.base).ex
  refine ⟨fun pins s σ H Q I h => wpAny_Call_Name_kw (ld_glob I hg hm ?_ hdb)⟩
  refine PySem.W.callWith_K (h₀ := X.base) I.ok.mod.kin kp (thn (ha.run pos pins s σ H _ I h) fun us s1 ⟨vs, H1, I1, r, q⟩ => ⟨I1.kIn, ?_⟩) he hpl
  obtain ⟨f', fd, hm', G, b, _⟩ := (F (bigger X.base s1.heap X.env.cells)).ex
  cases hm.symm.trans hm'
  have q' := q _ (cells_bigger (cells_of I1 cp))
  have hlen : us.length = ps.length := by rw [← r.length]; exact G.len _ _ _ _ q'
  have bb := b s1 us I1.kIn (by rw [List.append_nil]; exact hlen)
  rw [List.append_nil] at bb
  refine wpAny_call (codeAny_mono (G.run X.A X.stack s1 H1 ⟨us, []⟩ us vs Q E0 (hr.mono hl) (env_bigger I1 hfn) bb r q') fun rr s2 hq => ?_)
  cases rr with
  | error e => exact pass0 pins σ H1 s1 e s2 I1 hq
  | ok fl =>
    cases fl with
    | ret u => exact I1.after hq
    | next => exact hq.elim
    | brk => exact hq.elim
    | cont => exact hq.elim
end
/-! ### a def that makes lambdas: its code object is told -/
section
open PyProof.Rows
structure FunC (K : PySem.W.Frag) (x qual : Str) (st : Stmt) (f : Addr) (fd : FuncData) (cc : Addr) : Prop where
  ex : ∃ (oc : Value) (od : Option Addr) (kV doc pm : Value) (an : Option Addr) (ct : Value) (osl : Array (Option Value)),
    fd = PySem.W.fnOf x qual (defArgs st) (defBody st) (defScope st) .none kV doc pm an (.ref cc) ct ∧ K.lookup f = some ⟨oc, od, .func fd, osl⟩ ∧ PySem.W.codeIn K (.ref cc) qual = true
  kp : PySem.W.keepIn K (.ref f) = true
structure FnM0 (K : PySem.W.Frag) (mg : Str → Option Value) (x : Str) (ps : List Str) (st : Stmt) (cc : Addr) : Prop where
  ex : ∃ f fd, mg x = some (.ref f) ∧ FunC K x x st f fd cc ∧ Binds K fd ps []
variable {P : Program} {w : World} {K : PySem.W.Frag} {mg : Str → Option Value} {base : Heap}
theorem funC_mk {x qual : Str} {st : Stmt} {f cc : Addr} {oc : Value} {od an : Option Addr} {osl : Array (Option Value)} {kV doc pm ct : Value} (l : K.lookup f = some ⟨oc, od, .func (PySem.W.fnOf x qual (defArgs st) (defBody st) (defScope st) .none kV doc pm an (.ref cc) ct), osl⟩)
    (c : PySem.W.codeIn K (.ref cc) qual = true) (k : PySem.W.keepIn K (.ref f) = true) : FunC K x qual st f (PySem.W.fnOf x qual (defArgs st) (defBody st) (defScope st) .none kV doc pm an (.ref cc) ct) cc := ⟨⟨oc, od, kV, doc, pm, an, ct, osl, rfl, l, c⟩, k⟩
theorem FunC.okM {x qual : Str} {st : Stmt} {f cc : Addr} {fd : FuncData} {N ps : List Str} {k : Nat} {sp : Sp} (F : FunC K x qual st f fd cc) (S : FnScope N ps (defScope st)) (len : ∀ vs H Q E, sp vs H Q E → vs.length = ps.length)
    (hbody : ∀ (A : Around) (outer : List Env) (s : Shared) (H : Hp) (vs : List V) (Q : VK) (E : XK), Room k (A.deeper (envOfC qual (defScope st) s.heap.objs.size f (.ref cc))) → sp vs H Q E →
      ∃ t, PSs (cxOf CX0 P w K mg base N qual (defScope st) f (.ref cc) A outer s H E).nox (defBody st) t ∧ t { nx := fun _ H' => Q .non H', rt := Q } (start N vs) H) : FnOk P w K mg base CX0 (k + 1) f fd ps sp := by
  obtain ⟨oc, od, kV, doc, pm, an, ct, osl, rfl, lk, hcd⟩ := F.ex
  refine fn_of lk hcd S len fun A outer s H vs Q E hr hsp => ?_
  obtain ⟨t, h, q⟩ := hbody A outer s H vs Q E hr hsp
  exact ⟨t, h.nox, q⟩
theorem FnM0.ok {x : Str} {ps : List Str} {st : Stmt} {cc : Addr} {N : List Str} {k : Nat} {sp : Sp} (F : FnM0 K mg x ps st cc) (S : FnScope N ps (defScope st)) (len : ∀ vs H Q E, sp vs H Q E → vs.length = ps.length)
    (hbody : ∀ (f : Addr) (A : Around) (outer : List Env) (s : Shared) (H : Hp) (vs : List V) (Q : VK) (E : XK), Room k (A.deeper (envOfC x (defScope st) s.heap.objs.size f (.ref cc))) → sp vs H Q E →
      ∃ t, PSs (cxOf CX0 P w K mg base N x (defScope st) f (.ref cc) A outer s H E).nox (defBody st) t ∧ t { nx := fun _ H' => Q .non H', rt := Q } (start N vs) H) : Fn P w K mg base x ps (k + 1) sp := by
  obtain ⟨f, fd, hm, F, b⟩ := F.ex
  exact ⟨f, fd, hm, F.okM S len (hbody f), b, F.kp⟩
end
/-! ### the readings, step by step -/
section
variable {σ : L2.St} {H : Hp} {Q : VK}
instance rdLamb {T : List (Addr × Str)} {mk : Addr → NdefX.NF} {e : Expr} [t : TBS T H] : Rd (tLamb T mk e σ H Q) (∀ (f c' : Addr) (H1 : Hp), SN H1 H → TBS T H1 → FR0 H f → OB H1 f (LamO f (mk c') e) → OB H1 (mk c').c (LamX.CodeO (mk c').c (mk c').qual) → Q (.ref f) H1) := ⟨fun h => ⟨t.h, h⟩⟩
instance rdFnB {cl : List (Str × Addr)} {fr : List Str} {js : List Nat} {sp : Heap → Sp} {E : XK} {t : TA} : Rd (tFnB cl fr js sp E t σ H Q) (t σ H fun vs H1 => ∀ base' : Heap, NdefX.CellsAt cl fr (js.map (NdefX.slotAt σ)) base' (fun _ => none) → sp base' vs H1 Q E) := ⟨fun h => h⟩
end
open NdefX in
theorem cells1 {cl : List (Str × Addr)} {fr : List Str} {ws : List (Option V)} {h : Heap} {H : Hp} (C : CellsAt cl fr ws h H) {names : List (Str × NameKind)} {y : Str} {v : V} (j : Nat) (hn : ∀ z ∈ names, z.2 = .free → z.1 = y) (hm : (y, NameKind.free) ∈ names) (hj : fr[j]? = some y) (hw : ws[j]? = some (some v)) :
    CellsAt (cloFrom cl names []) [y] [some v] h H := by
  refine cells_clo C (fun z hz e => ?_) rfl fun i x hi => ?_
  · rw [hn z hz e]
    exact cells_have C (List.mem_of_getElem? hj)
  · match i, hi with
    | 0, hi =>
      cases hi
      exact ⟨hm, j, hj, fun u hu => by cases hu; exact hw⟩
    | n + 1, hi => cases hi
open NdefX in
theorem cells2 {cl : List (Str × Addr)} {fr : List Str} {ws : List (Option V)} {h : Heap} {H : Hp} (C : CellsAt cl fr ws h H) {names : List (Str × NameKind)} {y1 y2 : Str} {v1 v2 : V} (j1 j2 : Nat) (hn : ∀ z ∈ names, z.2 = .free → z.1 = y1 ∨ z.1 = y2) (hm1 : (y1, NameKind.free) ∈ names) (hm2 : (y2, NameKind.free) ∈ names)
    (hj1 : fr[j1]? = some y1) (hw1 : ws[j1]? = some (some v1)) (hj2 : fr[j2]? = some y2) (hw2 : ws[j2]? = some (some v2)) : CellsAt (cloFrom cl names []) [y1, y2] [some v1, some v2] h H := by
  refine cells_clo C (fun z hz e => ?_) rfl fun i x hi => ?_
  · rcases hn z hz e with q | q <;> rw [q]
    · exact cells_have C (List.mem_of_getElem? hj1)
    · exact cells_have C (List.mem_of_getElem? hj2)
  · match i, hi with
    | 0, hi =>
      cases hi
      exact ⟨hm1, j1, hj1, fun u hu => by cases hu; exact hw1⟩
    | 1, hi =>
      cases hi
      exact ⟨hm2, j2, hj2, fun u hu => by cases hu; exact hw2⟩
    | n + 2, hi => cases hi
open NdefX in
theorem cells0 {cl : List (Str × Addr)} {fr : List Str} {ws : List (Option V)} {h : Heap} {H : Hp} (C : CellsAt cl fr ws h H) {names : List (Str × NameKind)} (hn : ∀ z ∈ names, z.2 ≠ .free) : CellsAt (cloFrom cl names []) [] [] h H :=
  cells_clo C (fun z hz e => absurd e (hn z hz)) rfl fun i x hi => by cases hi
/-! ### the place in a list; texts -/
theorem mt_indexB {X : Cx} {K : PySem.W.Frag} (hK : X.K = K) : MtR X "list.index" (rIndex K) := by
  subst hK
  exact mt_index
def rAddS : R2 := fun x y H Q => ∃ i j : Str, x = .str i ∧ y = .str j ∧ i.length + j.length ≤ 100000 ∧ Q (.str (i ++ j)) H
theorem op_addS {X : Cx} : OpR X (binaryOp .Add) rAddS := op_weak op_add_str fun x y H Q ⟨i, j, a, b, h, q⟩ => ⟨i, j, a, b, small_of h, q⟩
def rMulS : R2 := fun x y H Q => ∃ (i : Str) (k : Int), x = .str i ∧ y = .int k ∧ i.length ≤ 16 ∧ 0 ≤ k ∧ k ≤ 1000 ∧ Q (.str (Txt.mul i k)) H
theorem op_mulS {X : Cx} : OpR X (binaryOp .Mult) rMulS := by
  intro pins s σ H x y v u Q I rx ry h
  obtain ⟨i, k, rfl, rfl, hi, h0, h1, q⟩ := h
  obtain ⟨t, rfl⟩ := rx
  obtain ⟨t', rfl⟩ : ∃ t', u = Value.int k t' := ry
  exact PySem.W.KXi.mul rfl hi (by omega) (by omega) fun t' tk _ _ => ⟨.str (Txt.mul i k), H, I.tok _, ⟨_, rfl⟩, q⟩
def rIntS : List V → Hp → VK → Prop := fun xs H Q => ∃ (a : Str) (n : Int), xs = [.str a] ∧ PySem.intText? a = some n ∧ a.length ≤ 640 ∧ Q (.int n) H
theorem cr_intS {X : Cx} : CallR X (.type "int") rIntS := call_int_str
theorem rd_index {K : PySem.W.Frag} {H : Hp} {Q : VK} {p : Addr} {xs : List V} {y : V} [o : OB H p (.lst xs)] (j : Nat) (z : V) (h1 : flatV y = true) (h2 : xs.all flatV = true) (h3 : xs[j]? = some z) (h4 : eqV z y = true) (h5 : (xs.take j).all (fun x => !eqV x y) = true) (q : Q (.int (j : Nat)) H) : rIndex K (.ref p) [y] H Q :=
  ⟨p, xs, y, j, z, rfl, rfl, o.sq, h1, h2, h3, h4, fun m z' hm hz => by
    have h6 := List.all_eq_true.mp h5 z' (List.mem_of_getElem? (i := m) (by rw [List.getElem?_take_of_lt hm]; exact hz))
    simpa using h6, q⟩
/-! ### an exception that a suite hands to a def -/
/-- the exception at a, of the class D, within the base -/
structure ExAt (base : Heap) (a D : Addr) : Prop where
  ex : ∃ oe vs, base.get? a = some oe ∧ Zc (.ref D) none oe ∧ oe.data = .fields vs
section
open PyProof.Rows
def rIsZ (K : PySem.W.Frag) (base : Heap) : List V → Hp → VK → Prop := fun xs H Q => ∃ (a D : Addr) (c : V) (cv : Value) (b : Bool), xs = [.ref a, c] ∧ ExAt base a D ∧ ExcC K D ∧ (∀ u, RelV c u → u = cv) ∧ PySem.W.kitOne K (.ref D) cv = some b ∧ Q (.bl b) H
theorem cr_isZ {X : Cx} {K : PySem.W.Frag} {base : Heap} (hK : X.K = K) (hB : X.base = base) : CallR X (.builtin "isinstance") (rIsZ K base) := by
  subst hK hB
  intro pins s σ H xs us Q I r h
  obtain ⟨a, D, c, cv, b, rfl, hx, C, hcv, e, q⟩ := h
  cases r with
  | cons rx rr =>
    cases rr with
    | cons rt rr =>
      cases rr
      cases rx
      have ec := hcv _ rt
      subst ec
      obtain ⟨oe, vs, hb, hz, hv⟩ := hx.ex
      have hget := I.bk a oe hb
      have J : PySem.W.InstAt s.heap a oe D none := by
        obtain ⟨oc, od, oda, osl⟩ := oe
        obtain ⟨h1, h2⟩ := hz
        dsimp only at h1 h2 hv
        subst h1 h2 hv
        exact ⟨hget, rfl, rfl, trivial⟩
      exact PySem.W.kia_one (PySem.W.handS_kitx_exc C.hg C.hk C.hs C.hd C.ha C.hn C.ht C.hm) I.kIn J e (fun z => nomatch z) fun tk => ⟨.bl b, H, I.kept (t' := tk) fun _ _ z => z, rfl, q⟩
/-- isinstance of the exception that the context pins -/
def rIsP (K : PySem.W.Frag) (p : Addr × Obj) : List V → Hp → VK → Prop := fun xs H Q => ∃ (D : Addr) (c : V) (cv : Value) (b : Bool), xs = [.ref p.1, c] ∧ Zc (.ref D) none p.2 ∧ (∃ vs, p.2.data = .fields vs) ∧ ExcC K D ∧ (∀ u, RelV c u → u = cv) ∧ PySem.W.kitOne K (.ref D) cv = some b ∧ Q (.bl b) H
theorem cr_isP {X : Cx} {K : PySem.W.Frag} {p : Addr × Obj} (hK : X.K = K) (hp : p ∈ X.pn) : CallR X (.builtin "isinstance") (rIsP K p) := by
  subst hK
  intro pins s σ H xs us Q I r h
  obtain ⟨D, c, cv, b, rfl, hz, hf, C, hcv, e, q⟩ := h
  cases r with
  | cons rx rr =>
    cases rr with
    | cons rt rr =>
      cases rr
      cases rx
      have ec := hcv _ rt
      subst ec
      obtain ⟨hget, _⟩ := I.pin p (List.mem_append_left _ hp)
      obtain ⟨vs, hv⟩ := hf
      have J : PySem.W.InstAt s.heap p.1 p.2 D none := by
        obtain ⟨a, oc, od, oda, osl⟩ := p
        obtain ⟨h1, h2⟩ := hz
        dsimp only at h1 h2 hv hget
        subst h1 h2 hv
        exact ⟨hget, rfl, rfl, trivial⟩
      exact PySem.W.kia_one (PySem.W.handS_kitx_exc C.hg C.hk C.hs C.hd C.ha C.hn C.ht C.hm) I.kIn J e (fun z => nomatch z) fun tk => ⟨.bl b, H, I.kept (t' := tk) fun _ _ z => z, rfl, q⟩
/-! ### a def called in a suite, its promise told of the handled exception -/
open L2H in
structure FnHP (P : Program) (w : World) (K : PySem.W.Frag) (mg : Str → Option Value) (base : Heap) (CX : CXT) (k : Nat) (f : Addr) (fd : FuncData) (ps : List Str) (sp : Addr × Obj → Sp) : Prop where
  len : ∀ p vs H Q E, sp p vs H Q E → vs.length = ps.length
  run : ∀ (A : Around) (outer : List Env) (s : Shared) (H : Hp) (args : Args) (us : List Value) (vs : List V) (Q : VK) (E : XK) (p : Addr × Obj), RoomH k A → PinOk outer H s p → Env0 P w K mg base A outer s H → BindsTo s fd args (ps.zip us) → Vals vs us → sp p vs H Q E →
    codeAny (model P w) A (.call (.ref f) args) (CR CX outer P w H s Q E) s
open L2H in
/-- such a def, by its body -/
theorem fnHP_of {CX : CXT} {P : Program} {w : World} {K : PySem.W.Frag} {mg : Str → Option Value} {base : Heap} {k : Nat} {f : Addr} {name qual : Str} {params : Arguments} {body : List Stmt} {scope : Scope} {dV kV doc pm cdv ct oc : Value} {an od : Option Addr}
    {osl : Array (Option Value)} {N ps : List Str} {sp : Addr × Obj → Sp} (lk : K.lookup f = some ⟨oc, od, .func (PySem.W.fnOf name qual params body scope dV kV doc pm an cdv ct), osl⟩) (hcd : PySem.W.codeIn K cdv qual = true) (S : FnScope N ps scope)
    (len : ∀ p vs H Q E, sp p vs H Q E → vs.length = ps.length)
    (hbody : ∀ (A : Around) (out : List Env) (s : Shared) (H : Hp) (vs : List V) (Q : VK) (E : XK) (p : Addr × Obj), RoomH k (A.deeper (envOfC qual scope s.heap.objs.size f cdv)) → sp p vs H Q E →
      ∃ t, PSs (cxH CX P w K mg base N qual scope f cdv A out s H E p) body t ∧ t { nx := fun _ H' => Q .non H', rt := Q } (L2.start N vs) H) :
    FnHP P w K mg base CX (k + 1) f (PySem.W.fnOf name qual params body scope dV kV doc pm an cdv ct) ps sp := by
  refine ⟨len, fun A out s H ar us vs Q E p rm pin en bi rv hsp => ?_⟩
  have hlen := len _ _ _ _ _ hsp
  have kin : K.In s.heap := en.mod.kin.keeps fun z y q => (en.bs z y q).1
  have nol : s.heap.NoLimit := en.mod.nolimit.keeps fun z y q => (en.bs z y q).1
  have hk : ∀ y ∈ ps.zip us, scope.names.lookup y.1 = some .local ∨ (scope.names.lookup y.1 = some .cell ∧ ((cellsFrom (s.heap.objs.size + 1) scope.names []).lookup y.1).isSome = true) := by
    rintro ⟨nm, va⟩ hy
    exact (S.par nm (List.of_mem_zip hy).1).elim .inl fun q => .inr ⟨q, PySem.W.cellsFrom_some _ _ _ (.inl q)⟩
  refine codeAny_call_function rm.depth (kin _ _ lk) rfl S.co S.gen rfl (PySem.W.codeRec_of kin hcd) (bi _ _ _ _ ?_)
  refine wpAny_newFunctionEnv_cells S.kind hk fun ev hev s2 x => ?_
  subst hev
  refine ⟨nol.keeps x.toInCall.keep, codeAny_func ?_⟩
  obtain ⟨t, pt, pq⟩ := hbody A out s H vs Q E p (rm.deeper _) hsp
  have J := inv_startH (CX := CX) (E := E) S pin en hlen rv x
  refine wpAny_mono (pt.run [] s2 (L2.start N vs) H _ J pq) (fun fl s3 hs => ?_) fun _ _ hs => hs
  cases fl with
  | brk => obtain ⟨_, _, _, q⟩ := hs; exact q.elim
  | cont => obtain ⟨_, _, _, q⟩ := hs; exact q.elim
  | ret u =>
    obtain ⟨v, σ', H', J', r', q⟩ := hs
    exact ⟨v, H', J'.os, J'.bare, J'.base, J'.hok, r', q⟩
  | next =>
    obtain ⟨σ', H', J', q⟩ := hs
    exact ⟨V.non, H', J'.os, J'.bare, J'.base, J'.hok, rfl, q⟩
open L2H in
/-- its call in a suite (or in a def so called) -/
theorem pe_fnHP {X : Cx} {k j : Nat} {f : Addr} {fd : FuncData} {ps : List Str} {sp : Addr × Obj → Sp} {x : Str} {q pos : Pos} {e : Expr} {es : List Expr} {t : TA} {p : Addr × Obj} (hp : p ∈ X.pn) (F : FnHP X.prog X.w X.K X.mg X.base CX0 j f fd ps sp) (hr : RoomH k X.A) (hg : Gl X x) (hm : X.mg x = some (.ref f)) (hk : PySem.W.keepIn X.K (.ref f) = true) (hb : Binds X.K fd ps [])
    (ha : PA X (e :: es) t) (hl : j ≤ k := by decide) (hdb : (x == ("__debug__" : Str)) = false := by decide) (he : starEach (e :: es) X.env = (false, eval e X.env) :: starEach es X.env := by rfl) (hpl : (backTo pos (starEach es X.env)).any (·.1) = false := by rfl) :
    PE X (.Call (.Name x q) (e :: es) [] pos) (tFn (sp p) E0 t) := by
  refine ⟨fun pins s σ H Q I h => ?_⟩
  refine wpAny_Call_Name_kw (ld_glob I hg hm ?_ hdb)
  refine PySem.W.callWith_K (h₀ := X.base) I.ok.mod.kin hk (thn (ha.run pos pins s σ H _ I h) fun us s1 ⟨vs, H1, I1, r, q⟩ => ⟨I1.kIn, ?_⟩) he hpl
  have hlen : us.length = ps.length := by rw [← r.length]; exact F.len _ _ _ _ _ q
  have b := hb s1 us I1.kIn (by rw [List.append_nil]; exact hlen)
  rw [List.append_nil] at b
  have P1 := I1.pin p (List.mem_append_left _ hp)
  have hpin : PinOk X.stack H1 s1 p := ⟨P1.1, P1.2.1, fun hm => (List.mem_cons.mp (I1.stkSub p.1 hm)).elim P1.2.2.1 P1.2.2.2.1, P1.2.2.2.2⟩
  refine wpAny_call (codeAny_mono (F.run X.A X.stack s1 H1 ⟨us, []⟩ us vs Q E0 p (hr.mono hl) hpin I1.env0 b r q) fun rr s2 hq => ?_)
  cases rr with
  | error e => exact pass0 pins σ H1 s1 e s2 I1 hq
  | ok fl =>
    cases fl with
    | ret u => exact I1.after hq
    | next => exact hq.elim
    | brk => exact hq.elim
    | cont => exact hq.elim
end
/-! ### a def called in a suite, by its name -/
section
variable {P : Program} {w : World} {K : PySem.W.Frag} {mg : Str → Option Value} {base : Heap}
structure FnHq (P : Program) (w : World) (K : PySem.W.Frag) (mg : Str → Option Value) (base : Heap) (x : Str) (ps : List Str) (k : Nat) (sp : Addr × Obj → Sp) : Prop where
  ex : ∃ f fd, mg x = some (.ref f) ∧ FnHP P w K mg base CX0 k f fd ps sp ∧ Binds K fd ps [] ∧ PySem.W.keepIn K (.ref f) = true
open L2H PyProof.Rows in
theorem Fn0.okHP {x : Str} {ps : List Str} {st : Stmt} {N : List Str} {k : Nat} {sp : Addr × Obj → Sp} (F : Fn0 K mg x ps st) (S : FnScope N ps (defScope st)) (len : ∀ p vs H Q E, sp p vs H Q E → vs.length = ps.length)
    (hbody : ∀ (f : Addr) (cdv : Value) (A : Around) (out : List Env) (s : Shared) (H : Hp) (vs : List V) (Q : VK) (E : XK) (p : Addr × Obj), RoomH k (A.deeper (envOfC x (defScope st) s.heap.objs.size f cdv)) → sp p vs H Q E →
      ∃ t, PSs (cxH CX0 P w K mg base N x (defScope st) f cdv A out s H E p) (defBody st) t ∧ t { nx := fun _ H' => Q .non H', rt := Q } (L2.start N vs) H) : FnHq P w K mg base x ps (k + 1) sp := by
  obtain ⟨f, fd, hm, F, b⟩ := F.ex
  have kp := F.kp
  obtain ⟨oc, od, kV, doc, pm, an, cdv, ct, osl, rfl, lk, hcd⟩ := F.ex
  exact ⟨f, _, hm, fnHP_of lk hcd S len fun A out s H vs Q E p hr hsp => hbody f cdv A out s H vs Q E p hr hsp, b, kp⟩
end
def tHot (a : Addr) (cls : Value) (d : Option Addr) (sp : Addr × Obj → Sp) (t : TA) : TE := fun σ H Q => t σ H fun vs H1 => ∀ oe : Obj, Zc cls d oe → (∃ vs, oe.data = .fields vs) → sp (a, oe) vs H1 Q E0
section
variable {X : Cx} {k j : Nat} {a : Addr} {oe : Obj} {cls : Value} {d : Option Addr} {pn : List (Addr × Obj)} {x : Str} {ps : List Str} {sp : Addr × Obj → Sp} {t : TA} {e : Expr} {es : List Expr} {q pos : Pos}
theorem pe_hot (hz : Zc cls d oe) (hf : ∃ vs, oe.data = .fields vs) (F : FnHq X.prog X.w X.K X.mg X.base x ps j sp) (hr : Room k X.A) (hg : Gl (X.suite a ((a, oe) :: pn)) x) (ha : PA (X.suite a ((a, oe) :: pn)) (e :: es) t) (hl : j ≤ k := by decide) (hdb : (x == ("__debug__" : Str)) = false := by decide)
    (he : starEach (e :: es) X.env = (false, eval e X.env) :: starEach es X.env := by rfl) (hpl : (backTo pos (starEach es X.env)).any (·.1) = false := by rfl) :
    PE (X.suite a ((a, oe) :: pn)) (.Call (.Name x q) (e :: es) [] pos) (tHot a cls d sp t) := by
  obtain ⟨f, fd, hm, G, b, kp⟩ := F.ex
  refine pe_weak (pe_fnHP (X := X.suite a ((a, oe) :: pn)) (k := k) (p := (a, oe)) List.mem_cons_self G ⟨hr.dp, hr.un⟩ hg hm kp b (pa_up ha) hl hdb he hpl) fun σ H Q h => ?_
  exact ⟨_, h, fun vs H1 h1 => h1 oe hz hf⟩
end
/-- the handled exception is of the class D -/
class PinI (p : Addr × Obj) (D : outParam Addr) : Prop where
  z : Zc (.ref D) none p.2
  f : ∃ vs, p.2.data = .fields vs
class KitV (K : PySem.W.Frag) (D : Addr) : Prop where h : PySem.W.kitOne K (.ref D) (.type "ValueError") = some true
theorem kit_tyC {K : PySem.W.Frag} {D : Addr} {T : String} {b : Bool} (h : PySem.W.subIn K (.ref D) (.type T) = some b) (m : PySem.W.kitMeta T = true := by decide +kernel) : PySem.W.kitOne K (.ref D) (.type T) = some b := by
  show (if ((Value.ref D : Value) == .type T) = true then some true else PySem.W.kitCls K (.ref D) (.type T)) = some b
  rw [if_neg (by intro h; cases h)]
  show (if PySem.W.kitMeta T = true then PySem.W.subIn K (.ref D) (.type T) else none) = some b
  rw [if_pos m]
  exact h
section
variable {K : PySem.W.Frag} {σ : L2.St} {H : Hp} {Q : VK} {p : Addr × Obj} {D C : Addr} {b : Bool}
instance [x : PinI p D] [e : ExcI K D] [k : KitI K D C b] : Rd (rIsP K p [.ref p.1, .ref C] H Q) (Q (.bl b) H) := ⟨fun h => ⟨D, .ref C, .ref C, b, rfl, x.z, x.f, e.h, fun _ r => r, k.h, h⟩⟩
instance [x : PinI p D] [e : ExcI K D] [k : KitV K D] : Rd (rIsP K p [.ref p.1, .ty "ValueError"] H Q) (Q (.bl true) H) := ⟨fun h => ⟨D, .ty "ValueError", .type "ValueError", true, rfl, x.z, x.f, e.h, fun _ r => r, k.h, h⟩⟩
instance {a : Addr} {cls : Value} {d : Option Addr} {sp : Addr × Obj → Sp} {t : TA} : Rd (tHot a cls d sp t σ H Q) (t σ H fun vs H1 => ∀ oe : Obj, Zc cls d oe → (∃ vs, oe.data = .fields vs) → sp (a, oe) vs H1 Q E0) := ⟨fun h => h⟩
end
/-! ### {} -/
def tDNewB : TE := fun _ H Q => kNew Q (.dK []) H
theorem pe_dnewB {X : Cx} {pos : Pos} : PE X (.Dict [] [] pos) tDNewB := pe_weak pe_dnewK fun σ H Q a => a.of
instance {σ : L2.St} {H : Hp} {Q : VK} : Rd (tDNewB σ H Q) (kNew Q (.dK []) H) := ⟨fun h => h⟩
instance {K H a kvs} [o : OB H a (.dK kvs)] : TY K H (.ref a) (.type "dict") := ⟨.base (.dK o.h)⟩
/-! ### a part of the script -/
def rSlRB (K : PySem.W.Frag) : V → Option Int → Option Int → Hp → VK → Prop := fun x lo hi H Q => ∃ a ns, x = .ref a ∧ IR K H a ns ∧ kNew Q (.lst ((cutI ns lo hi).map V.int)) H
theorem sl_rlistB {X : Cx} {K : PySem.W.Frag} (hK : X.K = K) : SlR X (rSlRB K) := by
  subst hK
  exact fun pins s σ H x v vl vu lo hi sl Q I rx hs pl pu ⟨a, ns, e, o, k⟩ => sl_list pins s σ H x v vl vu lo hi sl Q I rx hs pl pu ⟨a, _, e, o.h, by rw [cut_map]; exact k.of⟩
theorem rd_slR {K : PySem.W.Frag} {H : Hp} {Q : VK} {p : Addr} {ns : List Int} {lo hi : Option Int} [o : IR K H p ns] (q : kNew Q (.lst ((cutI ns lo hi).map V.int)) H) : rSlRB K (.ref p) lo hi H Q := ⟨p, ns, rfl, o, q⟩
instance {K : PySem.W.Frag} {H : Hp} {Q : VK} {p : Addr} {ns : List Int} {lo hi : Option Int} [o : IR K H p ns] : Rd (rSlRB K (.ref p) lo hi H Q) (kNew Q (.lst ((cutI ns lo hi).map V.int)) H) := ⟨rd_slR⟩
/-! ### what stays while lambdas are made and lists grow -/
def KP (H G : Hp) : Prop := ∀ b o, G b = some o → (∀ ps, o ≠ .tbl ps) → H b = some o
theorem KP.refl (H : Hp) : KP H H := fun _ _ h _ => h
theorem KP.trans {H M G : Hp} (a : KP H M) (b : KP M G) : KP H G := fun c o h n => a c o (b c o h n) n
theorem KP.sm {H G : Hp} (a : SM H G) : KP H G := fun c o h _ => a.s c o h
theorem KP.ob {H G : Hp} {q : Addr} {u : HO} (a : KP H G) (o : OB G q u) [n : NT u] : OB H q u := ⟨a q u o.h n.h⟩
class KX (H G : Hp) : Prop where
  s : KP H G
  n : ∀ b, H b = none → G b = none
instance KX.refl (H : Hp) : KX H H := ⟨.refl H, fun _ h => h⟩
instance (priority := 200) KX.stepM {H M G : Hp} [a : SM H M] [b : KX M G] : KX H G := ⟨(KP.sm a).trans b.s, fun c h => b.n c (by
  cases e : M c with
  | none => rfl
  | some o => rw [a.s c o e] at h; cases h)⟩
instance (priority := 190) KX.stepN {H M G : Hp} [a : SN H M] [b : KX M G] : KX H G := ⟨KP.trans (M := M) a.s b.s, fun c h => b.n c (a.n c h)⟩
instance (priority := 100) KX.mut {H G M N : Hp} {p : Addr} {o : HO} [a : MU H G p] [f : FR0 N p] [k : KX N M] [b : KX G M] [x : OB H p o] : KX H M := ⟨fun c o h n => a.s c o (fun e => by subst e; rw [k.n _ f.h] at h; cases h) (b.s c o h n), fun c h => b.n c (by
  cases e : G c with
  | none => rfl
  | some u =>
    by_cases z : c = p
    · subst z
      have := x.h
      rw [h] at this
      cases this
    · rw [a.s c u z e] at h
      cases h)⟩
theorem snx {H G : Hp} [a : KX H G] : SN H G := ⟨a.s, a.n⟩
instance (priority := 100) NE.c {G : Hp} {p q : Addr} {n : Str} {xs : List V} [a : OB G q (LamX.CodeO q n)] [b : OB G p (.lst xs)] : NE q p := ⟨fun e => by
  subst e
  have h := a.h
  rw [b.h] at h
  unfold LamX.CodeO at h
  cases h⟩
instance {kvs} : NT (.dK kvs) := ⟨fun _ z => by cases z⟩
instance (priority := 150) IR.monoN {K : PySem.W.Frag} {H G : Hp} {q : Addr} {u : List Int} [a : SN H G] [b : IR K G q u] : IR K H q u := ⟨by
  rcases b.h with (h | ⟨o, h⟩) | h
  · exact .inl (.inl (a.s _ _ h fun _ z => by cases z))
  · exact .inl (.inr ⟨o, a.s _ _ h fun _ z => by cases z⟩)
  · exact .inr h⟩
theorem tyOf_kp {K : PySem.W.Frag} {H G : Hp} {x : V} {t : Value} (s : KP H G) (h : TyOf K G x t) : TyOf K H x t := by
  cases h with
  | non => exact .non
  | bl y => exact .bl y
  | int i => exact .int i
  | str y => exact .str y
  | flt y => exact .flt y
  | lst e => exact .lst (s _ _ e fun ps z => HO.noConfusion z)
  | frz e => exact .frz (s _ _ e fun ps z => HO.noConfusion z)
  | tup e => exact .tup (s _ _ e fun ps z => HO.noConfusion z)
  | dK e => exact .dK (s _ _ e fun ps z => HO.noConfusion z)
  | dT e => exact .dT (s _ _ e fun ps z => HO.noConfusion z)
  | ins e a b c d f => exact .ins (s _ _ e fun ps z => HO.noConfusion z) a b c d f
theorem TY.kp {K : PySem.W.Frag} {H G : Hp} {x : V} {t : Value} (s : KP H G) (h : TY K G x t) : TY K H x t := ⟨by
  cases h.h with
  | base b => exact .base (tyOf_kp s b)
  | byt b => exact .byt b
  | set e => exact .set (s _ _ e fun _ z => by cases z)
  | kList e c => exact .kList e c
  | kTuple e c => exact .kTuple e c
  | kDict e c => exact .kDict e c
  | fTuple e => exact .fTuple (s _ _ e fun _ z => by cases z)
  | fDict e => exact .fDict (s _ _ e fun _ z => by cases z)⟩
instance (priority := 100) TBS.mut {T : List (Addr × Str)} {H G : Hp} {p : Addr} {xs : List V} [a : MU H G p] [o : OB G p (.lst xs)] [b : TBS T G] : TBS T H := ⟨fun q hq => by
  obtain ⟨ps, h1, h2, h3⟩ := b.h q hq
  have ne : ∀ {b : Addr} {u : HO}, G b = some u → u ≠ .lst xs → H b = some u := fun {b u} e n => a.s b u (fun z => by
    subst z
    have := o.h
    rw [e] at this
    exact n (Option.some.inj this)) e
  refine ⟨ps, ne h1 (fun z => by cases z), h2, fun pos cv hc => ?_⟩
  obtain ⟨c, e1, e2⟩ := h3 pos cv hc
  exact ⟨c, e1, ne e2 (fun z => by unfold LamX.CodeO at z; cases z)⟩⟩
/-! ### lambdas of a law that wants to know of the guards -/
section
open LamX NdefX PyProof.Rows
def LamPG (P : Program) (w : World) (K : PySem.W.Frag) (mg : Str → Option Value) (base : Heap) (k : Nat) (f : Addr) (F : NF) (e : Expr) (sp : Sp) : Prop :=
  ∀ (A : Around) (out : List Env) (s : Shared) (H : Hp) (us : List Value) (vs : List V) (Q : VK) (E : XK), Room k A → A.guards = some [] → Env0 P w K mg base A out s H → H f = some (LamO f F e) → H F.c = some (CodeO F.c F.qual) → Vals vs us → sp vs H Q E →
    codeAny (model P w) A (.call (.ref f) ⟨us, []⟩) (CR (L2.CX P w) out P w H s Q E) s
variable {P : Program} {w : World} {K : PySem.W.Frag} {mg : Str → Option Value} {base : Heap} {N ps fr : List Str} {F : NF} {e : Expr} {f : Addr} {k j : Nat} {sp : Sp} {ws : List (Option V)}
theorem lamPG_of (S : NScope N ps fr F.scope) (C : CellsAt F.cl fr ws base fun _ => none) (hb : ∀ (pm ctv : Value) (us : List Value), us.length = ps.length → bindArgs (PySem.W.kla_fn F.name F.qual F.params e F.scope F.cl pm (.ref F.c) ctv) ⟨us, []⟩ = pure (ps.zip us)) (len : ∀ vs H Q E, sp vs H Q E → vs.length = ps.length)
    (hbody : ∀ (A : Around) (out : List Env) (s : Shared) (H : Hp) (vs : List V) (Q : VK) (E : XK), Room k (A.deeper (envF F f s.heap.objs.size)) → (A.deeper (envF F f s.heap.objs.size)).guards = some [] → sp vs H Q E → ∃ t, PE (ncx (L2.CX P w) P w K mg base N F f A out s H E) e t ∧ t (startF N vs ws) H Q) :
    LamPG P w K mg base (k + 1) f F e sp := by
  intro A out s H us vs Q E hr gd e0 hf hc r hsp
  have hl := len _ _ _ _ hsp
  have lim : s.heap.NoLimit := e0.mod.nolimit.keeps fun b o e => (e0.bs b o e).1
  obtain ⟨pm, ctv, ho⟩ := lamO_at e0.hok hf
  refine PySem.W.kla_callFunE hr.depth ho rfl S.co S.gen rfl (codeO_at e0.hok hc) ?_
  rw [hb pm ctv us (by rw [← r.length]; exact hl)]
  refine wpAny_pure (wpAny_newFunctionEnv S.nocell (fun ⟨n, _⟩ hy => S.par n (List.of_mem_zip hy).1) (fun h₁ hns hsb => ⟨lim.fresh _ hsb, ?_⟩) S.kind)
  show codeAny _ _ (.expr e (envF F f s.heap.objs.size)) _ _
  have kp : ∀ b o, s.heap.get? b = some o → h₁.get? b = some o := fun b o e => hsb.extBut b o (Nat.ne_of_lt (Heap.lt_size e)) (Heap.get?_push_of_some _ e)
  obtain ⟨t, ht, hq⟩ := hbody A out s H vs Q E (hr.deeper _) gd hsp
  have I : Inv (ncx (L2.CX P w) P w K mg base N F f A out s H E) [] (startF N vs ws) H { s with heap := h₁, toks := s.toks + (ps.zip us).length } := inv_startN S hr.hd e0 hl r (cells_up C e0) hns kp
  refine PySem.W.kla_codeExpr (wpAny_mono (ht.run [] _ (startF N vs ws) H Q I hq) (fun v s' hq => ?_) fun e s' hq => hq)
  obtain ⟨w', H', J', rv, q⟩ := hq
  exact ⟨w', H', J'.os, J'.bare, J'.base, J'.hok, rv, q⟩
end
def tAskG (P : Program) (w : World) (K : PySem.W.Frag) (mg : Str → Option Value) (base : Heap) (k i : Nat) (W : WX) (t : TA) : TE := fun σ H Q => ∃ f F e, σ[i]? = some (some (.ref f)) ∧ H f = some (LamO f F e) ∧
  t σ H fun vs H1 => ∃ sp, H1 f = some (LamO f F e) ∧ H1 F.c = some (LamX.CodeO F.c F.qual) ∧ LamPG P w K mg base k f F e sp ∧ sp vs H1 Q (WE W σ)
section
open LamX NdefX PyProof.Rows
variable {X : Cx} {k j i : Nat} {x : Str} {t : TA} {e : Expr} {es : List Expr} {p pos : Pos}
theorem pe_askG0 (hr : Room j X.A) (gd : X.A.guards = some []) {W : WX} (tk : Takes X W) (hN : X.N[i]? = some x) (hv : Vis X.env.scope x) (ha : PA X (e :: es) t) (hk : k ≤ j := by decide)
    (hd : (x == ("__debug__" : Str)) = false := by decide) (hcd : (x == ("__classdict__" : Str)) = false := by decide)
    (he : starEach (e :: es) X.env = (false, eval e X.env) :: starEach es X.env := by rfl) (hpl : (backTo pos (starEach es X.env)).any (·.1) = false := by rfl) :
    PE X (.Call (.Name x p) (e :: es) [] pos) (tAskG X.prog X.w X.K X.mg X.base k i W t) := by
  refine ⟨fun pins s σ H Q I h => ?_⟩
  obtain ⟨f, F, eb, hs, hf, ht⟩ := h
  refine wpAny_Call_Name_kw (thn ((pe_var (pos := p) hN hv hd hcd).run pins s σ H (fun v H1 => v = .ref f ∧ H1 = H) I ⟨.ref f, hs, rfl, rfl⟩) fun u s1 ⟨v, H1, I1, r1, q1⟩ => ?_)
  obtain ⟨ev, eH⟩ := q1
  subst ev
  rw [eH] at I1
  obtain rfl : u = Value.ref f := r1
  refine PySem.W.callWith_F (first := []) (lamFnAt I1 hf) (thn (ha.run pos pins s1 σ H _ I1 ht) fun us s2 ⟨vs, H2, I2, r, sp, h1, h2, Lp, q⟩ => ⟨lamFnAt I2 h1, ?_⟩) he hpl
  show wpAny _ _ (call (.ref f) us) _ _ _
  refine wpAny_call (codeAny_mono (Lp X.A X.stack s2 H2 us vs Q _ (hr.mono hk) gd I2.env0 h1 h2 r q) fun r s' hq => ?_)
  cases r with
  | error e => exact passAt tk σ pins H2 s2 e s' I2 hq
  | ok fl =>
    cases fl with
    | ret u => exact I2.after hq
    | next => exact False.elim hq
    | brk => exact False.elim hq
    | cont => exact False.elim hq
theorem pe_askG {P : Program} {w : World} {K : PySem.W.Frag} {mg : Str → Option Value} {base : Heap} (h1 : X.prog = P) (h2 : X.w = w) (h3 : X.K = K) (h4 : X.mg = mg) (h5 : X.base = base) (hr : Room j X.A) (gd : X.A.guards = some []) {W : WX} (tk : Takes X W) (hN : X.N[i]? = some x) (hv : Vis X.env.scope x) (ha : PA X (e :: es) t) (hk : k ≤ j := by decide)
    (hd : (x == ("__debug__" : Str)) = false := by decide) (hcd : (x == ("__classdict__" : Str)) = false := by decide)
    (he : starEach (e :: es) X.env = (false, eval e X.env) :: starEach es X.env := by rfl) (hpl : (backTo pos (starEach es X.env)).any (·.1) = false := by rfl) :
    PE X (.Call (.Name x p) (e :: es) [] pos) (tAskG P w K mg base k i W t) := by
  subst h1 h2 h3 h4 h5
  exact pe_askG0 hr gd tk hN hv ha hk hd hcd he hpl
theorem pe_fnBG {ps fr : List Str} {js : List Nat} {sp : Heap → Sp} (F : ∀ base', FnG X.prog X.w X.K X.mg base' x ps j (sp base')) (hr : Room k X.A) (gd : X.A.guards = some []) (hfn : ∀ x, X.fn x = true) (cp : Caps X X.env.cells fr js) (hg : Gl X x) (ha : PA X (e :: es) t) (hl : j ≤ k := by decide) (hdb : (x == ("__debug__" : Str)) = false := by decide)
    (he : starEach (e :: es) X.env = (false, eval e X.env) :: starEach es X.env := by rfl) (hpl : (backTo pos (starEach es X.env)).any (·.1) = false := by rfl) : PE X (.Call (.Name x p) (e :: es) [] pos) (tFnB X.env.cells fr js sp E0 t) := by
  obtain ⟨f, _, hm, _, _, kp⟩ := (F X.base).ex
  refine ⟨fun pins s σ H Q I h => wpAny_Call_Name_kw (ld_glob I hg hm ?_ hdb)⟩
  refine PySem.W.callWith_K (h₀ := X.base) I.ok.mod.kin kp (thn (ha.run pos pins s σ H _ I h) fun us s1 ⟨vs, H1, I1, r, q⟩ => ⟨I1.kIn, ?_⟩) he hpl
  obtain ⟨f', fd, hm', G, b, _⟩ := (F (bigger X.base s1.heap X.env.cells)).ex
  cases hm.symm.trans hm'
  have q' := q _ (cells_bigger (cells_of I1 cp))
  have hlen : us.length = ps.length := by rw [← r.length]; exact G.len _ _ _ _ q'
  have bb := b s1 us I1.kIn (by rw [List.append_nil]; exact hlen)
  rw [List.append_nil] at bb
  refine wpAny_call (codeAny_mono (G.run X.A X.stack s1 H1 ⟨us, []⟩ us vs Q E0 (hr.mono hl) gd (env_bigger I1 hfn) bb r q') fun rr s2 hq => ?_)
  cases rr with
  | error e => exact pass0 pins σ H1 s1 e s2 I1 hq
  | ok fl =>
    cases fl with
    | ret u => exact I1.after hq
    | next => exact hq.elim
    | brk => exact hq.elim
    | cont => exact hq.elim
variable {P : Program} {w : World} {K : PySem.W.Frag} {mg : Str → Option Value} {base : Heap}
theorem FunC.okMG {x qual : Str} {st : Stmt} {f cc : Addr} {fd : FuncData} {N ps : List Str} {k : Nat} {sp : Sp} (F : FunC K x qual st f fd cc) (S : FnScope N ps (defScope st)) (len : ∀ vs H Q E, sp vs H Q E → vs.length = ps.length)
    (hbody : ∀ (A : Around) (out : List Env) (s : Shared) (H : Hp) (vs : List V) (Q : VK) (E : XK), Room k (A.deeper (envOfC qual (defScope st) s.heap.objs.size f (.ref cc))) → (A.deeper (envOfC qual (defScope st) s.heap.objs.size f (.ref cc))).guards = some [] → sp vs H Q E →
      ∃ t, PSs (cxOf CX0 P w K mg base N qual (defScope st) f (.ref cc) A out s H E).nox (defBody st) t ∧ t { nx := fun _ H' => Q .non H', rt := Q } (start N vs) H) : FnOkG P w K mg base CX0 (k + 1) f fd ps sp := by
  obtain ⟨oc, od, kV, doc, pm, an, ct, osl, rfl, lk, hcd⟩ := F.ex
  refine fn_ofG lk hcd S len fun A out s H vs Q E hr gd hsp => ?_
  obtain ⟨t, h, q⟩ := hbody A out s H vs Q E hr gd hsp
  exact ⟨t, h.nox, q⟩
end
/-! ### the end -/
section
variable {P : Program} {w : World} {K : PySem.W.Frag} {mg mb : Str → Option Value} {k : Nat} {fa a : Addr} {fd : FuncData} {x : Str} {sp : Sp} {t : Shared} {vs : List Value} {ns : List Int} {cs : List (Addr × Addr)}
/-- the tables as the head leaves them -/
structure Tb0 (K : PySem.W.Frag) (mg : Str → Option Value) (h : Heap) (cs : List (Addr × Addr)) : Prop where
  em : ∀ q ∈ cs, h.get? q.2 = some (PySem.W.tabObj #[])
  un : ∀ q ∈ cs, K.lookup q.2 = none
  hd : ∀ q ∈ cs, PySem.W.CodeHd h q.1 q.2
  bm : ∃ (m : Addr) (u : Obj), mg "__builtins__" = some (.ref m) ∧ m ≠ builtinsNs ∧ h.get? m = some u ∧ u.cls = .type "module" ∧ u.dict = some builtinsNs ∧ u.data = .plain
def isTb (cs : List (Addr × Addr)) (c : Addr) : Prop := ∃ q ∈ cs, q.2 = c
theorem law_coreT (kin : K.In t.heap) (nm : t.heap.Ns mainGlobals mg) (nb : t.heap.Ns builtinsNs mb) (bb : ∀ x : Str, x ≠ "__name__" → mb x = bootBuiltins x) (nl : t.heap.NoLimit) (gn : t.gens = #[]) (T0 : Tb0 K mg t.heap cs) (ha : t.heap.get? a = some (scr vs)) (hr : Room k callerA)
    (F : ∀ base : Heap, K.In base → base.Ns mainGlobals mg → (∀ q ∈ cs, LamX.TabB base mg q.1 q.2) → FnOkG P w K mg base CX0 k fa fd [x] sp) (bind : ∀ (s : Shared) (u : Value), BindsTo s fd ⟨[u], []⟩ [(x, u)])
    (H : Hp) (tb : ∀ q ∈ cs, H q.2 = some (.tbl #[])) (only : ∀ c, H c = none ∨ (c = a ∧ K.lookup a = none ∧ ∃ o xs, H c = some (.frz o (.lst xs))) ∨ isTb cs c) (hok : HOk P w H t.heap) (prom : sp [.ref a] H (fun v _ => v = .bl true) fun _ _ _ => False) :
    codeAny (model P w) callerA (.call (.ref fa) ⟨[.ref a], []⟩) (EndG t) t := by
  have hid : ∀ {c : Addr} {o : Obj}, t.heap.get? c = some o → (∀ us n, o.data = .seq us n → False) → (o.data = .fields #[] → False) → (hidT t.heap H).get? c = some o := fun {c o} e n1 n2 => hidT_get e (by
    rcases only c with z | ⟨z, _⟩ | ⟨q, hq, z⟩
    · exact z
    · rw [z, ha] at e
      cases e
      exact (n1 _ _ rfl).elim
    · rw [← z, T0.em q hq] at e
      cases e
      exact (n2 rfl).elim)
  have nsp : ∀ {c : Addr} {m : Str → Option Value}, t.heap.Ns c m → (hidT t.heap H).Ns c m := by
    rintro c m ⟨o, es, ep, e, d, r⟩
    exact ⟨o, es, ep, hid e (fun us n z => by rw [d] at z; cases z) (fun z => by rw [d] at z; cases z), d, r⟩
  have kb : K.In (hidT t.heap H) := fun c o e => hidT_get (kin c o e) (by
    rcases only c with z | ⟨z, q, _⟩ | ⟨q, hq, z⟩
    · exact z
    · rw [z, q] at e
      cases e
    · rw [← z, T0.un q hq] at e
      cases e)
  have tbs : ∀ q ∈ cs, LamX.TabB (hidT t.heap H) mg q.1 q.2 := fun q hq => by
    have emq := T0.em q hq
    obtain ⟨og, gs, gp, eg, dg, _⟩ := nm
    refine ⟨?_, ?_, ?_⟩
    · obtain ⟨o, us, fi, tf, fl, tg, b, tx, tt, e, r1, r2, r3, rest⟩ := T0.hd q hq
      exact ⟨o, us, fi, tf, fl, tg, b, tx, tt, hid e (fun _ _ z => by rw [r2] at z; cases z) (fun z => by rw [r2] at z; cases z; simp at r3), r1, r2, r3, rest⟩
    · obtain ⟨m, u, b1, b2, b3, b4, b5, b6⟩ := T0.bm
      refine ⟨m, u, b1, b2, fun z => ?_, fun z => ?_, hid b3 (fun _ _ z => by rw [b6] at z; cases z) (fun z => by rw [b6] at z; cases z), b4, b5, b6⟩
      · rw [z, eg] at b3
        cases b3
        rw [dg] at b6
        cases b6
      · rw [z, emq] at b3
        cases b3
        cases b6
    · intro z
      rw [z, emq] at eg
      cases eg
      cases dg
  obtain ⟨ml, l1, l2⟩ := nl
  have en : Env0 P w K mg (hidT t.heap H) callerA [] t H :=
    ⟨rfl, ⟨kb, nsp nm, ⟨mb, nsp nb, bb⟩, ⟨ml, nsp l1, l2⟩⟩, fun _ _ => of_hidT, Nat.le_of_eq (hidT_size _ _), trivial, fun c z => (List.not_mem_nil (show c ∈ ([] : List Addr) from z)).elim, hok, .of_eq gn⟩
  refine codeAny_mono ((F _ kb (nsp nm) tbs).run callerA [] t H ⟨[.ref a], []⟩ [.ref a] [.ref a] _ _ hr rfl en (bind t (.ref a)) (.cons rfl .nil) prom) fun r s2 h => ?_
  match r, h with
  | .error e, h => exact h.elim
  | .ok .next, h => exact h.elim
  | .ok .brk, h => exact h.elim
  | .ok .cont, h => exact h.elim
  | .ok (.ret u), ⟨v, G, os, bare, un, gok, rv, e⟩ =>
    have e : v = .bl true := e
    rw [e] at rv
    obtain rfl : u = Value.bool true := rv
    have kept : ∀ c o, t.heap.get? c = some o → s2.heap.get? c = some o ∨ ∃ q ∈ cs, q.2 = c ∧ o = PySem.W.tabObj #[] ∧ ∃ more : Array Value, s2.heap.get? c = some { cls := .none, data := .fields more } := fun c o z => by
      rcases only c with n | ⟨_, _, ob, ys, n⟩ | ⟨q, hq, n⟩
      · exact .inl (un.keep c o z n (fun y => (List.not_mem_nil (show c ∈ ([] : List Addr) from y)).elim) (by simp))
      · have h1 := (hok c _ n).1
        rw [z] at h1
        cases h1
        exact .inl (gok c _ (un.frzs c _ _ n)).1
      · subst n
        obtain ⟨more, m⟩ := un.tbls q.2 #[] (tb q hq)
        have zz := z.symm.trans (T0.em q hq)
        exact .inr ⟨q, hq, rfl, Option.some.inj zz, _, gok q.2 _ m⟩
    refine ⟨rfl, ⟨fun c o z => ?_, fun c o z => ?_⟩, os, bare⟩
    · rcases kept c o z with y | ⟨q, hq, y1, y2, more, y3⟩
      · exact .inl y
      · subst y1 y2
        exact .inr (.inl ⟨((T0.hd q hq).tab (T0.em q hq)).isCodeTable, rfl, #[], more, rfl, by rw [Array.empty_append]; exact y3⟩)
    · rcases kept c o z with y | ⟨q, hq, y1, y2, more, y3⟩
      · exact ⟨o, y⟩
      · exact ⟨_, y3⟩
open Classical in
theorem law_callT (kin : K.In t.heap) (nm : t.heap.Ns mainGlobals mg) (nb : t.heap.Ns builtinsNs mb) (bb : ∀ x : Str, x ≠ "__name__" → mb x = bootBuiltins x) (nl : t.heap.NoLimit) (gn : t.gens = #[]) (T0 : Tb0 K mg t.heap cs) (ha : t.heap.get? a = some (scr vs)) (hi : PyProof.Rows.IntsAre vs ns) (hl : ns.length ≤ sizeLine) (hr : Room k callerA)
    (F : ∀ base : Heap, K.In base → base.Ns mainGlobals mg → (∀ q ∈ cs, LamX.TabB base mg q.1 q.2) → FnOkG P w K mg base CX0 k fa fd [x] sp) (bind : ∀ (s : Shared) (u : Value), BindsTo s fd ⟨[u], []⟩ [(x, u)])
    (prom : ∀ H : Hp, (∀ q ∈ cs, H q.2 = some (.tbl #[])) → SqL K H a (ns.map V.int) → sp [.ref a] H (fun v _ => v = .bl true) fun _ _ _ => False) :
    codeAny (model P w) callerA (.call (.ref fa) ⟨[.ref a], []⟩) (EndG t) t := by
  have vl := vals_ints hi
  have ln := hi.length
  have aT : ¬ isTb cs a := fun ⟨q, hq, e⟩ => by
    have z := T0.em q hq
    rw [e, ha] at z
    cases (show Data.seq vs.toArray _ = Data.fields #[] from congrArg Obj.data (Option.some.inj z))
  have hT : ∀ {c : Addr} {u v : Option HO}, isTb cs c → (if isTb cs c then u else v) = u := fun h => if_pos h
  refine law_coreT kin nm nb bb nl gn T0 ha hr F bind (fun c => if isTb cs c then some (.tbl #[]) else if c = a ∧ K.lookup a = none then some (.frz (scr vs) (.lst (ns.map V.int))) else none) (fun q hq => if_pos ⟨q, hq, rfl⟩) (fun c => ?_) (fun c u z => ?_) (prom _ (fun q hq => if_pos ⟨q, hq, rfl⟩) ?_)
  · by_cases h : isTb cs c
    · exact .inr (.inr h)
    · by_cases g : c = a ∧ K.lookup a = none
      · exact .inr (.inl ⟨g.1, g.2, _, _, (if_neg h).trans (if_pos g)⟩)
      · exact .inl ((if_neg h).trans (if_neg g))
  · by_cases h : isTb cs c
    · have z' := (if_pos h).symm.trans z
      cases z'
      obtain ⟨q, hq, rfl⟩ := h
      exact T0.em q hq
    · have z1 := (if_neg h).symm.trans z
      by_cases g : c = a ∧ K.lookup a = none
      · have z' := (if_pos g).symm.trans z1
        cases z'
        rw [g.1]
        exact ⟨ha, by rw [List.length_map]; exact hl, vs, _, vl, ha⟩
      · have z' := (if_neg g).symm.trans z1
        cases z'
  · cases e : K.lookup a with
    | none => exact .inl (.inr ⟨scr vs, (if_neg aT).trans (if_pos ⟨rfl, rfl⟩)⟩)
    | some o =>
      have eo := kin a o e
      rw [ha] at eo
      cases eo
      exact .inr ⟨_, vs.toArray, _, e, rfl, rfl, rfl, by rw [List.size_toArray, ln]; exact hl, by simpa using vl⟩
end
def LawAtG (l : PySem.W.OpenLaw) (w : World) (K : PySem.W.Frag) (k n : Nat) (x : Str) (mg : Str → Option Value) (fa : Addr) (h : Heap) : Prop :=
  ∃ (fd : FuncData) (cs : List (Addr × Addr)) (sp : Sp), (∀ q ∈ cs, h.get? q.2 = some (PySem.W.tabObj #[])) ∧ (∀ q ∈ cs, K.lookup q.2 = none) ∧ (∀ q ∈ cs, PySem.W.CodeHd h q.1 q.2) ∧ (∀ (s : Shared) (u : Value), BindsTo s fd ⟨[u], []⟩ [(x, u)]) ∧
    (∀ (H : Hp) (a : Addr) (ns : List Int), ns.length ≤ n → True → (∀ q ∈ cs, H q.2 = some (.tbl #[])) → SqL K H a (ns.map V.int) → sp [.ref a] H (fun v _ => v = .bl true) fun _ _ _ => False) ∧
    ∀ base : Heap, K.In base → base.Ns mainGlobals mg → (∀ q ∈ cs, LamX.TabB base mg q.1 q.2) → FnOkG l.prog w K mg base CX0 k fa fd [x] sp
theorem walk_ofTG {l : PySem.W.OpenLaw} {n k : Nat} {q : Program} {loose : List Str} {XP : (Str → Option Value) → Heap → Prop} {YP : World → Heap → Prop} {d : DefRec} {K : PySem.Params → PySem.W.Frag} {x : Str}
    (hn : l.most = some n) (hz : n ≤ sizeLine) (hdf : d.params.defaults = []) (rm : Room k callerA) (hY : ∀ (w : World) (h : Heap), YP w h → (K w.params).In h)
    (F : ∀ (w : World) (mg : Str → Option Value) (fa : Addr) (h : Heap), YP w h → (K w.params).In h → h.Ns mainGlobals mg → mg d.name = some (.ref fa) → LawAtG l w (K w.params) k n x mg fa h) :
    PySem.W.WalkO q loose XP YP l.row.toRowW d [] (fun f vs => PySem.call f vs) :=
  Att.attach_callB hn hdf fun w _ s1 mg mb fa _ _ _ _ a vs ns G Y _ _ _ hm hobj hints hlen _ hgen => by
    obtain ⟨fd, cs, sp, em, un, hd, b, prom, f⟩ := F w mg fa _ Y (hY w _ Y) G.T.g hm
    exact law_callT (hY w _ Y) G.T.g G.T.b G.T.builtins G.T.nolimit hgen ⟨em, un, hd, G.T.bmain⟩ hobj hints (Nat.le_trans hlen hz) rm f b fun H hH hS => prom H a ns hlen trivial hH hS
/-! ### isinstance with list and tuple, walks of either, a part that is never reached -/
section
variable {X : Cx} {K : PySem.W.Frag}
theorem pe_nev {e : Expr} : PE X e (fun _ _ _ => False) := ⟨fun _ _ _ _ _ _ h => h.elim⟩
theorem pi_or {tg l : Expr} {w1 w2 : TI} (h1 : PI X tg l w1) (h2 : PI X tg l w2) : PI X tg l (fun σ H R => w1 σ H R ∨ w2 σ H R) := ⟨fun pins s σ H R I h => h.elim (h1.run pins s σ H R I) (h2.run pins s σ H R I)⟩
def rIsiLT (K : PySem.W.Frag) : List V → Hp → VK → Prop := fun xs H Q => ∃ (x : V) (tp : Addr) (t : Value) (b : Bool), xs = [x, .ref tp] ∧ OB H tp (.tup [.ty "list", .ty "tuple"]) ∧ TY K H x t ∧ PySem.W.kitAny K t [.type "list", .type "tuple"] = some b ∧ Q (.bl b) H
theorem cr_isiLT (hK : X.K = K) : CallR X (.builtin "isinstance") (rIsiLT K) := by
  subst hK
  exact cr_weak call_isiT fun vs H Q ⟨x, tp, t, b, e, o, ty, k, q⟩ => ⟨x, tp, [.ty "list", .ty "tuple"], t, [.type "list", .type "tuple"], b, e, o.h, .cons (.ty _) (.cons (.ty _) .nil), ty.h, k, q⟩
theorem kit_lt {S : String} {b1 b2 : Bool} (h1 : kitB S "list" = some b1) (h2 : kitB S "tuple" = some b2) : PySem.W.kitAny K (.type S) [.type "list", .type "tuple"] = some (b1 || b2) := by
  refine kitAny_cons (kit_ty h1) (fun e => ?_) (fun e => by rw [e]; rfl)
  refine kitAny_cons (kit_ty h2) (fun e2 => ?_) (fun e2 => by rw [e, e2]; rfl)
  rw [e, e2]
  rfl
class OrI (a b : Bool) (c : outParam Bool) : Prop where h : (a || b) = c
instance : OrI true true true := ⟨rfl⟩
instance : OrI true false true := ⟨rfl⟩
instance : OrI false true true := ⟨rfl⟩
instance : OrI false false false := ⟨rfl⟩
instance {H : Hp} {Q : VK} {x : V} {tp : Addr} {S : String} {b1 b2 b3 : Bool} [o : OB H tp (.tup [.ty "list", .ty "tuple"])] [t : TY K H x (.type S)] [k1 : KT S "list" b1] [k2 : KT S "tuple" b2] [e : OrI b1 b2 b3] : Rd (rIsiLT K [x, .ref tp] H Q) (Q (.bl b3) H) := ⟨fun h => ⟨x, tp, _, _, rfl, o, t, kit_lt k1.e k2.e, by rw [e.h]; exact h⟩⟩
/-! ### str of data -/
structure ShowAt (K : PySem.W.Frag) (H : Hp) (v : V) (d : PyData) : Prop where
  a : ∃ p, v = .ref p
  h : Dp K H v d
  w : PyData.showable d = true
  n : PyData.hasDict d = false
  p : d.depth ≤ 4
  l : (PyData.shown d).length ≤ sizeLine
def rStrD (K : PySem.W.Frag) : List V → Hp → VK → Prop := fun vs H Q => ∃ v d, vs = [v] ∧ ShowAt K H v d ∧ Q (.str (PyData.shown d)) H
theorem cr_strD (hK : X.K = K) (hg : X.A.guards = some []) (hu : X.A.units + 64 < cLine) : CallR X (.type "str") (rStrD K) := by
  subst hK
  intro pins s σ H xs us Q I r h
  obtain ⟨v, d, rfl, o, q⟩ := h
  obtain ⟨p, rfl⟩ := o.a
  obtain ⟨u, rfl, ru⟩ := vals1 r
  cases (show u = Value.ref p from ru)
  obtain ⟨as, rd⟩ := Dp.reads I d _ _ o.h rfl
  have hp := o.p
  exact PySem.str_of_reads rd o.w (fun z => by rw [o.n] at z; cases z) hg (by omega) (fun _ _ e => e) (fun h' u tk hk => ⟨.str _, H, I.kept (t' := tk) hk, ⟨_, rfl⟩, q⟩) o.l
end
/-! ### all stands but what S names -/
def MS (S : Addr → Prop) (H G : Hp) : Prop := ∀ b o, ¬ S b → G b = some o → H b = some o
theorem MS.refl {S : Addr → Prop} (H : Hp) : MS S H H := fun _ _ _ h => h
theorem MS.trans {S : Addr → Prop} {H M G : Hp} (a : MS S H M) (b : MS S M G) : MS S H G := fun c o n h => a c o n (b c o n h)
theorem MS.sx {S : Addr → Prop} {H G : Hp} (a : SX H G) : MS S H G := fun c o _ h => a.s c o h
theorem MS.mu {S : Addr → Prop} {H G : Hp} {p : Addr} (a : MU H G p) (h : S p) : MS S H G := fun c o n e => a.s c o (fun z => n (by rw [z]; exact h)) e
theorem MS.wk {S T : Addr → Prop} {H G : Hp} (a : MS S H G) (h : ∀ b, S b → T b) : MS T H G := fun c o n e => a c o (fun z => n (h c z)) e
theorem MS.fresh {S : Addr → Prop} {H M G : Hp} (a : MS S H M) (f : ∀ c, S c → G c = none) [b : SX M G] : SX H G := ⟨fun c o h => a c o (fun z => by rw [f c z] at h; cases h) (b.s c o h)⟩
theorem MS.ob {S : Addr → Prop} {H G : Hp} {p : Addr} {o : HO} (a : MS S H G) (n : ¬ S p) [b : OB G p o] : OB H p o := ⟨a p o n b.h⟩
/-! ### new lists, one for each thing -/
structure NewL (G : Hp) (D : Addr) (ys : List V) : Prop where
  f : ∀ q, V.ref q ∈ ys → G q = none
  d : V.ref D ∉ ys
  n : ys.Nodup
section
variable {K : PySem.W.Frag} {σ : L2.St} {H : Hp} {Q : VK} {g : TG} {tt : TT} {te : TE} {vs : List Nat} {J : It} {n : Nat} {ok : Hp → Prop} {it : Nat → V → Hp → Hp → Prop}
theorem lcNew (l : List (List Int)) (Y : It1 J n ok it) (hn : n = l.length) (hl : l.length ≤ 100000) (hok : ∀ H', SM H' H → ok H')
    (hs : ∀ i x v H' H'', l[i]? = some x → SM H' H → it i v H' H'' → ∀ (Nt : VK) (Nf : Hp → Prop), (∀ q H4, SM H4 H' → FR0 H' q → OB H4 q (.lst (x.map V.int)) → Nt (.ref q) H4) →
      g v (wipe σ vs) H'' fun σ2 H2 => wipe σ2 vs = wipe σ vs ∧ tt σ2 H2 fun b H3 => if b = true then te σ2 H3 Nt else Nf H3)
    (hk : ∀ D ys H', SM H' H → FR0 H D → OB H' D (.lst ys) → Fa (LI H') ys l → NewL H D ys → Q (.ref D) H') : kLc g tt te vs σ Q J H := by
  subst hn
  intro D hD
  refine ⟨fun i m H' => m = l.length - i ∧ i ≤ l.length ∧ SM H' H ∧ ∃ ys, H' D = some (.lst ys) ∧ Fa (LIn D H') ys (l.take i) ∧ NewL H D ys, ⟨l.length, by simp, Nat.zero_le _, SM.new hD, [], upd_same, by simp; exact .nil, ⟨fun q h => (by cases h), fun h => (by cases h), List.nodup_nil⟩⟩, ?_⟩
  rintro i m H' ⟨rfl, hi, s, ys, d, hf, nw⟩
  by_cases hlt : i < l.length
  · refine .inr ⟨Y.go i H' hlt (hok _ s), fun H4 => SM H4 H ∧ ∃ ys, H4 D = some (.lst ys) ∧ Fa (LIn D H4) ys (l.take (i + 1)) ∧ NewL H D ys, fun H4 p' => ⟨l.length - (i + 1), by omega, rfl, hlt, p'⟩, fun v H'' y => ?_⟩
    refine hs i l[i] v H' H'' (List.getElem?_eq_getElem hlt) s (Y.yld i v H' H'' hlt (hok _ s) y) _ _ (fun q H4 s4 fq oq => ?_)
    have len : ys.length = i := by
      have := hf.len
      rw [List.length_take] at this
      omega
    have nq : q ≠ D := fun e => by
      have h := fq.h
      rw [e, d] at h
      cases h
    have mem : V.ref q ∉ ys := fun hm => by
      obtain ⟨j, hj⟩ := List.mem_iff_getElem?.mp hm
      obtain ⟨ns, _, q', e, _, o⟩ := hf.get hj
      cases e
      have h := o.h
      rw [fq.h] at h
      cases h
    have mu : MU (upd H4 D (.lst (ys ++ [.ref q]))) H4 D := MU.new
    refine ⟨ys, s4.s _ _ d, slt_of (by omega), ⟨fun b o h => ?_⟩, ys ++ [.ref q], upd_same, ?_, ?_⟩
    · rw [upd_ne (ne_of_none h hD)]
      exact s4.s _ _ (s.s _ _ h)
    · rw [List.take_succ_eq_append_getElem hlt]
      exact (hf.imp fun v x h => (h.mono ⟨s4.s⟩).mut mu).app (.cons ⟨q, rfl, ⟨nq⟩, ⟨mu.s _ _ nq oq.h⟩⟩ .nil)
    · refine ⟨fun q' hq' => ?_, fun hm => ?_, ?_⟩
      · rcases List.mem_append.mp hq' with h | h
        · exact nw.f q' h
        · cases List.mem_singleton.mp h
          exact free_back ⟨s.s⟩ fq.h
      · rcases List.mem_append.mp hm with h | h
        · exact nw.d h
        · cases List.mem_singleton.mp h
          exact nq rfl
      · refine List.nodup_append.mpr ⟨nw.n, by simp, fun a ha b hb e => ?_⟩
        rw [List.mem_singleton.mp hb] at e
        exact mem (by rw [← e]; exact ha)
  · have e : i = l.length := by omega
    subst e
    rw [List.take_length] at hf
    exact .inl ⟨Y.stop H' (hok _ s), hk D ys H' s ⟨hD⟩ ⟨d⟩ (hf.imp fun _ _ h => h.li) nw⟩
end
/-! ### what may be spoilt: lists and tuples of some depth, each once -/
def Atm (v : V) : Prop := (∃ i, v = .int i) ∨ ∃ b, v = .bl b
def Spl : Nat → Hp → V → (Addr → Prop) → Prop
  | 0, _, v, _ => Atm v
  | d + 1, H, v, S => Atm v ∨ ∃ p xs, v = .ref p ∧ (OB H p (.tup xs) ∨ OB H p (.lst xs)) ∧ xs.length ≤ 2000 ∧ S p ∧ ∃ Sf : Nat → Addr → Prop, (∀ i b, Sf i b → S b ∧ b ≠ p) ∧ (∀ i j b, Sf i b → Sf j b → i = j) ∧ ∀ i x, xs[i]? = some x → Spl d H x (Sf i)
theorem Spl.keep {H G : Hp} : ∀ (d : Nat) (v : V) (S : Addr → Prop), (∀ b o, S b → G b = some o → H b = some o) → Spl d G v S → Spl d H v S
  | 0, _, _, _, h => h
  | d + 1, v, S, k, h => by
    rcases h with h | ⟨p, xs, e, o, l, hp, Sf, h1, h2, h3⟩
    · exact .inl h
    · refine .inr ⟨p, xs, e, ?_, l, hp, Sf, h1, h2, fun i x hx => Spl.keep d x (Sf i) (fun b o hb => k b o (h1 i b hb).1) (h3 i x hx)⟩
      rcases o with o | o
      · exact .inl ⟨k _ _ hp o.h⟩
      · exact .inr ⟨k _ _ hp o.h⟩
theorem Spl.ms {H G : Hp} {d : Nat} {v : V} {S T : Addr → Prop} (m : MS T H G) (n : ∀ b, S b → ¬ T b) (h : Spl d G v S) : Spl d H v S := h.keep d v S fun b o hb => m b o (n b hb)
theorem Spl.sx {H G : Hp} {d : Nat} {v : V} {S : Addr → Prop} (s : SX H G) (h : Spl d G v S) : Spl d H v S := h.keep d v S fun b o _ => s.s b o
theorem Spl.atoms {H : Hp} {d : Nat} {p : Addr} {xs : List V} (o : OB H p (.lst xs)) (l : xs.length ≤ 2000) (h : ∀ x ∈ xs, Atm x) : Spl (d + 1) H (.ref p) (fun b => b = p) :=
  .inr ⟨p, xs, rfl, .inr o, l, rfl, fun _ _ => False, fun _ _ h => h.elim, fun _ _ _ h => h.elim, fun i x hx => by
    have := h x (List.mem_of_getElem? hx)
    cases d with
    | zero => exact this
    | succ d => exact .inl this⟩
theorem Spl.atomsT {H : Hp} {d : Nat} {p : Addr} {xs : List V} (o : OB H p (.tup xs)) (l : xs.length ≤ 2000) (h : ∀ x ∈ xs, Atm x) : Spl (d + 1) H (.ref p) (fun b => b = p) :=
  .inr ⟨p, xs, rfl, .inl o, l, rfl, fun _ _ => False, fun _ _ h => h.elim, fun _ _ _ h => h.elim, fun i x hx => by
    have := h x (List.mem_of_getElem? hx)
    cases d with
    | zero => exact this
    | succ d => exact .inl this⟩
theorem Spl.ints {H : Hp} {d : Nat} {p : Addr} {ns : List Int} (o : OB H p (.lst (ns.map V.int))) (l : ns.length ≤ 2000) : Spl (d + 1) H (.ref p) (fun b => b = p) := Spl.atoms o (by rw [List.length_map]; exact l) fun x hx => by
  obtain ⟨n, _, e⟩ := List.mem_map.mp hx
  exact .inl ⟨n, e.symm⟩
theorem Spl.one {H : Hp} {p q : Addr} {S : Addr → Prop} (o : OB H p (.lst [.ref q])) (n : ¬ S p) (h : Spl 1 H (.ref q) S) : Spl 2 H (.ref p) (fun b => b = p ∨ S b) :=
  .inr ⟨p, _, rfl, .inr o, by simp, .inl rfl, fun i b => i = 0 ∧ S b, fun i b h => ⟨.inr h.2, fun e => n (by rw [← e]; exact h.2)⟩, fun i j b h1 h2 => by rw [h1.1, h2.1], fun i x hx => by
    match i, hx with
    | 0, hx =>
      cases hx
      exact h.keep 1 _ _ (fun _ _ _ h => h) |> fun z => by
        have e : (fun b => (0 : Nat) = 0 ∧ S b) = S := by funext b; simp
        show Spl 1 H (.ref q) (fun b => (0 : Nat) = 0 ∧ S b)
        rw [e]
        exact z⟩
theorem Spl.two {H : Hp} {p q r : Addr} {ns ms : List Int} (o : OB H p (.lst [.ref q, .ref r])) (o1 : OB H q (.lst (ns.map V.int))) (o2 : OB H r (.lst (ms.map V.int))) (l1 : ns.length ≤ 2000) (l2 : ms.length ≤ 2000) (n1 : q ≠ p) (n2 : r ≠ p) (n3 : q ≠ r) : Spl 2 H (.ref p) (fun b => b = p ∨ b = q ∨ b = r) :=
  .inr ⟨p, _, rfl, .inr o, by simp, .inl rfl, fun i b => (i = 0 ∧ b = q) ∨ (i = 1 ∧ b = r), fun i b h => by
    rcases h with ⟨_, e⟩ | ⟨_, e⟩
    · exact ⟨.inr (.inl e), by rw [e]; exact n1⟩
    · exact ⟨.inr (.inr e), by rw [e]; exact n2⟩, fun i j b h1 h2 => by
    rcases h1 with ⟨e1, e2⟩ | ⟨e1, e2⟩ <;> rcases h2 with ⟨e3, e4⟩ | ⟨e3, e4⟩
    · rw [e1, e3]
    · exact (n3 (by rw [← e2, e4])).elim
    · exact (n3 (by rw [← e4, e2])).elim
    · rw [e1, e3], fun i x hx => by
    match i, hx with
    | 0, hx =>
      cases hx
      refine (Spl.ints (d := 0) o1 l1 : Spl 1 H _ _) |> fun z => ?_
      have e : (fun b => ((0 : Nat) = 0 ∧ b = q) ∨ ((0 : Nat) = 1 ∧ b = r)) = fun b => b = q := by funext b; simp
      show Spl 1 H (.ref q) (fun b => ((0 : Nat) = 0 ∧ b = q) ∨ ((0 : Nat) = 1 ∧ b = r))
      rw [e]
      exact z
    | 1, hx =>
      cases hx
      refine (Spl.ints (d := 0) o2 l2 : Spl 1 H _ _) |> fun z => ?_
      have e : (fun b => ((1 : Nat) = 0 ∧ b = q) ∨ ((1 : Nat) = 1 ∧ b = r)) = fun b => b = r := by funext b; simp
      show Spl 1 H (.ref r) (fun b => ((1 : Nat) = 0 ∧ b = q) ∨ ((1 : Nat) = 1 ∧ b = r))
      rw [e]
      exact z⟩
/-! ### texts of data -/
structure LeafOk (d : PyData) : Prop where
  w : d.showable = true
  n : d.hasDict = false
  p : d.depth ≤ 2
  l : d.leavesShort 13 = true
  z : d.weight ≤ 100000
theorem leaf_bool (b : Bool) : LeafOk (.bool b) := ⟨by rw [PyData.showable], by rw [PyData.hasDict], by rw [PyData.depth]; omega, by rw [PyData.leavesShort], by rw [PyData.weight]; omega⟩
theorem leaf_b1 (a : Bool) : ∀ d ∈ [PyData.bool a], LeafOk d := fun d hd => by
  rw [List.mem_singleton.mp hd]
  exact leaf_bool a
theorem leaf_b2 (a b : Bool) : ∀ d ∈ [PyData.bool a, PyData.bool b], LeafOk d := fun d hd => by
  rcases List.mem_cons.mp hd with h | h
  · rw [h]; exact leaf_bool a
  · rw [List.mem_singleton.mp h]; exact leaf_bool b
theorem atm_b1 (a : Bool) : ∀ x ∈ [V.bl a], Atm x := fun x hx => by
  rw [List.mem_singleton.mp hx]
  exact .inr ⟨a, rfl⟩
theorem atm_b2 (a b : Bool) : ∀ x ∈ [V.bl a, V.bl b], Atm x := fun x hx => by
  rcases List.mem_cons.mp hx with h | h
  · rw [h]; exact .inr ⟨a, rfl⟩
  · rw [List.mem_singleton.mp h]; exact .inr ⟨b, rfl⟩
theorem log_le {i : Int} {k : Nat} (h : i.natAbs < 2 ^ k) (hk : 0 < k) : i.natAbs.log2 < k := by
  rcases Nat.eq_zero_or_pos i.natAbs with z | z
  · rw [z]
    exact hk
  · exact (Nat.log2_lt (by omega)).mpr h
theorem leaf_int {i : Int} (h : i.natAbs < 10 ^ 12) : LeafOk (.int i) := by
  have h1 := log_le (i := i) (k := 60) (Nat.lt_trans h (by decide)) (by decide)
  refine ⟨?_, by rw [PyData.hasDict], by rw [PyData.depth]; omega, ?_, ?_⟩
  · rw [PyData.showable, decide_eq_true_iff]; omega
  · rw [PyData.leavesShort, decide_eq_true_iff]; exact PyData.shown_int_le h
  · rw [PyData.weight]; split <;> omega
theorem leaf_pair {i j : Int} (h : i.natAbs < 10 ^ 12) (k : j.natAbs < 10 ^ 12) : LeafOk (.tuple [.int i, .int j]) := by
  have a := leaf_int h
  have b := leaf_int k
  have h1 := log_le (i := i) (k := 60) (Nat.lt_trans h (by decide)) (by decide)
  have h2 := log_le (i := j) (k := 60) (Nat.lt_trans k (by decide)) (by decide)
  refine ⟨?_, ?_, ?_, ?_, ?_⟩
  · rw [PyData.showable, PyData.showableAll, PyData.showableAll, PyData.showableAll, a.w, b.w]; rfl
  · rw [PyData.hasDict, PyData.hasDictAll, PyData.hasDictAll, PyData.hasDictAll, a.n, b.n]; rfl
  · rw [PyData.depth, PyData.depthAll, PyData.depthAll, PyData.depthAll, PyData.depth, PyData.depth]; omega
  · rw [PyData.leavesShort, PyData.leavesShortAll, PyData.leavesShortAll, PyData.leavesShortAll, a.l, b.l]; rfl
  · rw [PyData.weight, PyData.weightAll, PyData.weightAll, PyData.weightAll, PyData.weight, PyData.weight]
    split <;> split <;> omega
def Chs (x : Str) : Prop := ∀ c ∈ x.cps.toList, c < 16 ^ 8
theorem chs_of (s : String) : Chs (Str.ofString s) := by
  rw [Str.ofString_eq_toList]
  intro c hc
  obtain ⟨d, _, e⟩ := List.mem_map.mp (by simpa using hc)
  have h : d.toNat < 16 ^ 8 := Nat.lt_of_lt_of_le (UInt32.toNat_lt d.val) (by decide)
  rw [← e]
  exact h
theorem chs_app {x y : Str} (h : Chs x) (k : Chs y) : Chs (x ++ y) := fun c hc => by
  have e : (x ++ y).cps.toList = x.cps.toList ++ y.cps.toList := by
    show (x.cps ++ y.cps).toList = _
    simp
  rw [e] at hc
  rcases List.mem_append.mp hc with z | z
  · exact h c z
  · exact k c z
theorem chs_text : ∀ (ts : List Str) (k : Nat) (acc : Str), (∀ t ∈ ts, Chs t) → Chs acc → Chs (textFrom k acc ts)
  | [], _, _, _, ha => ha
  | t :: r, k, acc, h, ha => by
    show Chs (textFrom (k + 1) (acc ++ (if k > 0 then ", " else "" : String) ++ t) r)
    exact chs_text r _ _ (fun u hu => h u (by simp [hu])) (chs_app (chs_app ha (chs_of _)) (h t (by simp)))
theorem chs_ints (ns : List Int) : Chs (PyData.shown (dI ns)) := by
  unfold dI
  rw [PyData.shown, shownAll_ints]
  show Chs (textFrom 0 "[" (ns.map fun n => PyData.shown (.int n)) ++ ("]" : String) : Str)
  refine chs_app (chs_text _ _ _ (fun t ht => ?_) (chs_of _)) (chs_of _)
  obtain ⟨n, _, e⟩ := List.mem_map.mp ht
  rw [← e, PyData.shown]
  exact chs_of _
theorem len_ints (ns : List Int) (hl : ns.length ≤ 2000) (h : ∀ n ∈ ns, n.natAbs < 10 ^ 12) : (PyData.shown (dI ns)).length ≤ 50000 := by
  unfold dI
  rw [PyData.shown, shownAll_ints]
  show (textFrom 0 "[" (ns.map fun n => PyData.shown (.int n)) ++ ("]" : String) : Str).length ≤ _
  have l := textFrom_le (ns.map fun n => PyData.shown (.int n)) 0 "[" 13 (fun t ht => by
    obtain ⟨n, hn, e⟩ := List.mem_map.mp ht
    rw [← e]
    exact PyData.shown_int_le (h n hn))
  rw [List.length_map] at l
  rw [strLen_append]
  have e1 : (("[" : String) : Str).length = 1 := rfl
  have e2 : (("]" : String) : Str).length = 1 := rfl
  omega
theorem leaf_text (ns : List Int) (hl : ns.length ≤ 2000) (h : ∀ n ∈ ns, n.natAbs < 10 ^ 12) : LeafOk (.str (PyData.shown (dI ns))) := by
  have l := len_ints ns hl h
  have c := chs_ints ns
  generalize PyData.shown (dI ns) = x at l c
  refine ⟨by rw [PyData.showable], by rw [PyData.hasDict], by rw [PyData.depth]; omega, ?_, ?_⟩
  · rw [PyData.leavesShort, List.all_eq_true]
    exact fun y hy => decide_eq_true (c y hy)
  · rw [PyData.weight]
    have : x.cps.size = x.length := rfl
    omega
theorem leaves : ∀ ds : List PyData, (∀ d ∈ ds, LeafOk d) → PyData.showableAll ds = true ∧ PyData.hasDictAll ds = false ∧ PyData.depthAll ds ≤ 2 ∧ PyData.leavesShortAll 13 ds = true ∧ PyData.weightAll ds ≤ ds.length * 100001
  | [], _ => ⟨by rw [PyData.showableAll], by rw [PyData.hasDictAll], by rw [PyData.depthAll]; omega, by rw [PyData.leavesShortAll], by rw [PyData.weightAll]; omega⟩
  | d :: r, h => by
    have a := h d (by simp)
    obtain ⟨b1, b2, b3, b4, b5⟩ := leaves r fun e he => h e (by simp [he])
    have a3 := a.p
    have a5 := a.z
    refine ⟨?_, ?_, ?_, ?_, ?_⟩
    · rw [PyData.showableAll, a.w, b1]; rfl
    · rw [PyData.hasDictAll, a.n, b2]; rfl
    · rw [PyData.depthAll]; omega
    · rw [PyData.leavesShortAll, a.l, b4]; rfl
    · rw [PyData.weightAll, List.length_cons, Nat.add_mul]; omega
section
variable {K : PySem.W.Frag} {H : Hp} {p : Addr} {xs : List V}
theorem show_lst {ds : List PyData} (o : OB H p (.lst xs)) (h : DpAll K H xs ds) (hl : ds.length ≤ 10) (a : ∀ d ∈ ds, LeafOk d) : ShowAt K H (.ref p) (.list ds) := by
  obtain ⟨b1, b2, b3, b4, b5⟩ := leaves ds a
  refine ⟨⟨p, rfl⟩, .lst o.sq h, ?_, ?_, ?_, ?_⟩
  · rw [PyData.showable]; exact b1
  · rw [PyData.hasDict]; exact b2
  · rw [PyData.depth]; omega
  · refine PyData.shown_fits (B := 13) (by decide) (by decide) (by rw [PyData.leavesShort]; exact b4) ?_
    rw [PyData.weight]
    omega
theorem show_ints {ns : List Int} (o : OB H p (.lst (ns.map V.int))) (hl : ns.length ≤ 1000) (h : ∀ n ∈ ns, n.natAbs < 10 ^ 12) : ShowAt K H (.ref p) (dI ns) := by
  have h2 : ∀ n ∈ ns, n.natAbs < 2 ^ 1900 := fun n hn => Nat.lt_of_lt_of_le (h n hn) (by decide +kernel)
  refine ⟨⟨p, rfl⟩, .lst o.sq (dpInts ns), ?_, ?_, ?_, shown_fits ns hl h2⟩
  · unfold dI; rw [PyData.showable]; exact showable_ints ns h2
  · unfold dI; rw [PyData.hasDict, nodict_ints]
  · have := dI_dep ns; omega
end
/-- what a door tells: what is fixed, and what may be spoilt -/
def Told (K : PySem.W.Frag) (Q : VK) (d : PyData) (H : Hp) : Prop := ∀ (t : Addr) (v u : V) (S : Addr → Prop) (H' : Hp), SM H' H → OB H' t (.tup [v, u]) → ShowAt K H' v d → Spl 2 H' u S → (∀ b, S b → H b = none) → Q (.ref t) H'
local macro_rules | `(tactic| walk_at "in") => `(tactic| first | assumption | infer_instance)
local macro_rules | `(tactic| walk_at "bd") => `(tactic| first
  | assumption
  | exact bd_s (by omega)
  | exact bd_lt (k := 600) (by omega))
local macro_rules | `(tactic| walk_at "side") => `(tactic| first
  | assumption
  | (show (0 : Int) < _; omega)
  | ((with_reducible refine mulw ?h ?g); (case h => walk_at "bd"); (case g => walk_at "bd"))
  | exact divw (by omega) (by omega))
local macro_rules | `(tactic| walk_at "s1") => `(tactic| first
  | with_reducible refine rdx ?_
  | ((with_reducible refine rd_kMk ?_); intro _ _ _ _ _ _)
  | intro _ _ _ _ _
  | ((with_reducible refine rd_I ?h ?_); (case h => walk_at "side"))
  | ((with_reducible refine rd_kTup ?_ ?h); (case h => simp))
  | ((with_reducible refine rd_kLst ?_ ?h); (case h => simp))
  | with_reducible refine rd_kRev ?_
  | ((with_reducible refine' rd_var ?h ?_); (case h => exact rfl))
  | ((with_reducible refine' rd_mt2 ?h ?_); (case h => exact rfl))
  | with_reducible refine rd_gname ?_
  | with_reducible refine rd_kPar ?_
  | with_reducible refine rd_kPar3 ?_
  | ((with_reducible refine' rd_ixT ?h ?_); (case h => exact rfl))
  | ((with_reducible refine' rd_ixL ?h ?_); (case h => exact rfl))
  | ((with_reducible refine rd_powL ?h ?g ?_); (case h => exact rfl); (case g => exact rfl))
  | ((with_reducible refine rd_shlL ?h ?g ?_); (case h => exact rfl); (case g => exact rfl))
  | ((with_reducible refine' rd_gtup ?h ?_); (case h => exact rfl))
  | ((with_reducible refine rd_appendI ?h ?_); (case h => omega); intro _ _ _)
  | ((with_reducible refine rd_append ?h ?_); (case h => first | omega | (simp; done) | (simp; omega)); intro _ _ _)
  | ((with_reducible refine rd_kSF ?h ?_); (case h => (simp only [List.length_cons, List.length_nil]; omega)); intro _ _ _)
  | ((with_reducible refine rd_strL ?h ?g ?_); (case h => simp); (case g => first | (with_reducible refine str_two ?_ ?_ <;> omega) | exact str_one (by omega)))
  | ((with_reducible refine rd_strI ?h ?_); (case h => omega))
  | ((with_reducible refine rd_listS ?h ?_); (case h => assumption))
  | with_reducible refine rd_list ?_
  | with_reducible refine rd_slL ?_
  | ((with_reducible refine rd_rep ?h ?g ?_); (case h => omega); (case g => first | (simp; done) | (simp; omega)))
  | ((with_reducible refine rd_cat ?h ?_); (case h => first | (simp; done) | (simp; omega) | omega))
  | ((with_reducible refine rd_reverse ?_); intro _ _ _)
  | ((with_reducible refine rd_clear ?_); intro _ _ _)
  | ((with_reducible refine rd_extend ?h ?_); (case h => first | omega | (simp; omega)); intro _ _ _)
  | ((with_reducible refine rd_kR1 ?h ?_); (case h => omega))
  | ((with_reducible refine rd_kR2 ?h ?_); (case h => omega))
  | ((with_reducible refine rd_wipe ?h ?_); (case h => exact rfl))
  | ((with_reducible refine rd_nF ?h ?_); (case h => first | with_reducible exact rfl | with_reducible exact decide_eq_true rfl | with_reducible exact decide_eq_true ⟨rfl, rfl⟩ | with_reducible exact all_mt | exact decide_eq_true (by omega) | exact decide_eq_true (by simp only [List.length_cons, List.length_nil]; omega)))
  | ((with_reducible refine rd_nT ?h ?_); (case h => first | with_reducible exact rfl | with_reducible exact ref_non | with_reducible exact int_non | with_reducible exact ne_selfD | exact decide_eq_false (by omega) | exact decide_eq_false (by simp only [List.length_cons, List.length_nil]; omega)))
  | ((with_reducible refine rd_T ?h ?_); (case h => first | with_reducible exact rfl | with_reducible exact decide_eq_true rfl | with_reducible exact decide_eq_true ⟨rfl, rfl⟩ | with_reducible exact all_mt | exact decide_eq_true (by omega) | exact decide_eq_true (by simp only [List.length_cons, List.length_nil]; omega)))
  | ((with_reducible refine rd_F ?h ?_); (case h => first | with_reducible exact rfl | with_reducible exact ref_non | with_reducible exact int_non | with_reducible exact ne_selfD | exact decide_eq_false (by omega) | exact decide_eq_false (by simp only [List.length_cons, List.length_nil]; omega))))
local macro_rules | `(tactic| walk_at "go") => `(tactic| repeat walk_at "s1")
/-! ### the mathematics -/
structure GB (a b : Int) : Prop where
  a2 : 2 ≤ a
  a60 : a ≤ 60
  b1 : 1 ≤ b
  ba : b < a
  g : Int.gcd a b = 1
theorem GB.ok {a b : Int} (g : GB a b) : 2 ≤ a ∧ a ≤ 60 ∧ 1 ≤ b ∧ b < a := ⟨g.a2, g.a60, g.b1, g.ba⟩
theorem div_lt' {a b n : Int} (hb : 1 ≤ b) (ha : b < a) (hn : 0 < n) : b * n / a < n := by
  apply Int.ediv_lt_of_lt_mul (by omega)
  have : b * n < a * n := Int.mul_lt_mul_of_pos_right ha hn
  rw [Int.mul_comm n a]; exact this
theorem div_nn {a b n : Int} (hb : 1 ≤ b) (ha : b < a) (hn : 0 ≤ n) : 0 ≤ b * n / a := Int.ediv_nonneg (Int.mul_nonneg (by omega) hn) (by omega)
/-- the row of a number -/
def rowN (a b : Int) : Nat → Int → List Int
  | 0, _ => []
  | k + 1, n => if 0 < n then rowN a b k (b * n / a) ++ [b * n % a] else []
def row (a b n : Int) : List Int := rowN a b n.toNat n
theorem rowN_any {a b : Int} (hb : 1 ≤ b) (ha : b < a) : ∀ (k j : Nat) (n : Int), n ≤ k → n ≤ j → rowN a b k n = rowN a b j n
  | 0, 0, _, _, _ => rfl
  | 0, j + 1, n, h, _ => by
    have : ¬ 0 < n := by omega
    simp [rowN, this]
  | k + 1, 0, n, _, h => by
    have : ¬ 0 < n := by omega
    simp [rowN, this]
  | k + 1, j + 1, n, h1, h2 => by
    unfold rowN
    by_cases h : 0 < n
    · have := div_lt' hb ha h
      rw [if_pos h, if_pos h, rowN_any hb ha k j _ (by omega) (by omega)]
    · rw [if_neg h, if_neg h]
theorem row_nil {a b n : Int} (h : n ≤ 0) : row a b n = [] := by
  have e : n.toNat = 0 := by omega
  unfold row
  rw [e]
  rfl
theorem row_step {a b n : Int} (hb : 1 ≤ b) (ha : b < a) (h : 0 < n) : row a b n = row a b (b * n / a) ++ [b * n % a] := by
  unfold row
  obtain ⟨k, e⟩ : ∃ k, n.toNat = k + 1 := ⟨n.toNat - 1, by omega⟩
  have := div_lt' hb ha h
  rw [e]
  show (if 0 < n then rowN a b k (b * n / a) ++ [b * n % a] else []) = _
  rw [if_pos h, rowN_any hb ha k (b * n / a).toNat _ (by omega) (by omega)]
theorem row_len_step {a b n : Int} (hb : 1 ≤ b) (ha : b < a) (h : 0 < n) : (row a b n).length = (row a b (b * n / a)).length + 1 := by
  rw [row_step hb ha h, List.length_append]
  rfl
/-- by strong descent -/
theorem row_ind {a b : Int} (hb : 1 ≤ b) (ha : b < a) {P : Int → Prop} (h0 : P 0) (hs : ∀ n, 0 < n → P (b * n / a) → P n) : ∀ n, 0 ≤ n → P n := by
  intro n hn
  obtain ⟨k, hk⟩ : ∃ k : Nat, n ≤ k := ⟨n.toNat, by omega⟩
  induction k generalizing n with
  | zero =>
    have : n = 0 := by omega
    subst this
    exact h0
  | succ k ih =>
    by_cases h : 0 < n
    · have := div_lt' hb ha h
      exact hs n h (ih _ (div_nn hb ha hn) (by omega))
    · have : n = 0 := by omega
      subst this
      exact h0
theorem row_len_le {a b : Int} (hb : 1 ≤ b) (ha : b < a) : ∀ n, 0 ≤ n → ((row a b n).length : Int) ≤ n := by
  refine row_ind hb ha (by rw [row_nil (by omega)]; simp) fun n h ih => ?_
  have := div_lt' hb ha h
  rw [row_len_step hb ha h]
  omega
/-- short rows where b is well below a -/
theorem row_len_short {a b : Int} (hb : 1 ≤ b) (ha : b < a) (h9 : 10 * b ≤ 9 * a) : ∀ (k : Nat) (n : Int), 0 ≤ n → n * 9 ^ k < 10 ^ k → (row a b n).length ≤ k
  | 0, n, h0, h => by
    have : n = 0 := by simp at h; omega
    subst this
    rw [row_nil (by omega)]
    simp
  | k + 1, n, h0, h => by
    by_cases hn : 0 < n
    · rw [row_len_step hb ha hn]
      have e1 : 10 * (b * n / a) ≤ 9 * n := by
        have h1 : a * (b * n / a) ≤ b * n := Int.mul_ediv_self_le (by omega)
        have h2 : 10 * b * n ≤ 9 * a * n := Int.mul_le_mul_of_nonneg_right h9 h0
        have h3 : a * (10 * (b * n / a)) ≤ a * (9 * n) := by
          have := Int.mul_le_mul_of_nonneg_left h1 (show (0 : Int) ≤ 10 by omega)
          calc a * (10 * (b * n / a)) = 10 * (a * (b * n / a)) := by rw [Int.mul_left_comm]
            _ ≤ 10 * (b * n) := this
            _ = 10 * b * n := by rw [Int.mul_assoc]
            _ ≤ 9 * a * n := h2
            _ = a * (9 * n) := by rw [Int.mul_comm 9 a, Int.mul_assoc]
        exact Int.le_of_mul_le_mul_left h3 (by omega)
      have e2 : b * n / a * 9 ^ k < 10 ^ k := by
        have p9 : (0 : Int) < 9 ^ k := Int.pow_pos (by omega)
        have h4 : 10 * (b * n / a) * 9 ^ k ≤ 9 * n * 9 ^ k := Int.mul_le_mul_of_nonneg_right e1 (Int.le_of_lt p9)
        rw [Int.pow_succ, Int.pow_succ] at h
        have h5 : 9 * n * 9 ^ k = n * (9 ^ k * 9) := by
          rw [Int.mul_comm 9 n, Int.mul_assoc, Int.mul_comm (9 ^ k) 9]
        have h6 : 10 * (b * n / a) * 9 ^ k = 10 * (b * n / a * 9 ^ k) := by rw [Int.mul_assoc]
        omega
      have l := row_len_short hb ha h9 k _ (div_nn hb ha h0) e2
      omega
    · rw [row_nil (by omega)]
      simp
/-- a drawn number of moderate size -/
def Great (a b n : Int) : Prop := 0 ≤ n ∧ n < 10 ^ 40 ∧ (10 * (a - b) < a → n < 1000)
theorem row_great {a b n : Int} (g : GB a b) (h0 : 0 ≤ n) (h1 : n < 10 ^ 42) (h2 : 10 * (a - b) < a → n < 2000) : (row a b n).length ≤ 2000 := by
  have := g.ok
  by_cases h : 10 * (a - b) < a
  · have l := row_len_le g.b1 g.ba n h0
    have := h2 h
    omega
  · have l := row_len_short g.b1 g.ba (by omega) 950 n h0 (by
      have e : (10 : Int) ^ 42 * 9 ^ 950 < 10 ^ 950 := by decide +kernel
      have : n * 9 ^ 950 ≤ 10 ^ 42 * 9 ^ 950 := Int.mul_le_mul_of_nonneg_right (by omega) (by decide +kernel)
      omega)
    omega
theorem rg8 {j : Int} (h1 : 1 ≤ j) (h8 : j ≤ 8) : ∃ n : Nat, n ≤ 2 ∧ RgC 0 j 4 n := by
  have h : j = 1 ∨ j = 2 ∨ j = 3 ∨ j = 4 ∨ j = 5 ∨ j = 6 ∨ j = 7 ∨ j = 8 := by omega
  rcases h with rfl | rfl | rfl | rfl | rfl | rfl | rfl | rfl
  · exact ⟨1, by decide, by decide, by decide, by decide, by decide⟩
  · exact ⟨1, by decide, by decide, by decide, by decide, by decide⟩
  · exact ⟨1, by decide, by decide, by decide, by decide, by decide⟩
  · exact ⟨1, by decide, by decide, by decide, by decide, by decide⟩
  · exact ⟨2, by decide, by decide, by decide, by decide, by decide⟩
  · exact ⟨2, by decide, by decide, by decide, by decide, by decide⟩
  · exact ⟨2, by decide, by decide, by decide, by decide, by decide⟩
  · exact ⟨2, by decide, by decide, by decide, by decide, by decide⟩
/-- all are figures -/
def figs (a : Int) (ns : List Int) : Bool := ns.all fun n => decide (0 ≤ n) && decide (n < a)
theorem figs_mem {a : Int} {ns : List Int} (h : figs a ns = true) {x : Int} (hx : x ∈ ns) : 0 ≤ x ∧ x < a := by
  have := List.all_eq_true.mp h x hx
  simpa using this
theorem figs_get {a : Int} {ns : List Int} (h : figs a ns = true) {i : Nat} (hi : i < ns.length) : 0 ≤ ns[i] ∧ ns[i] < a := figs_mem h (List.getElem_mem hi)
theorem figs_of {a : Int} {ns : List Int} (h : ∀ x ∈ ns, 0 ≤ x ∧ x < a) : figs a ns = true := List.all_eq_true.mpr fun x hx => by simpa using h x hx
def top (i : Nat) : Stmt := PySem.Challenge.pw_brokenbase_k22_whole_anew.main.body.getD i (.Pass ⟨0, 0, 0, 0⟩)
abbrev s_is_whole : Stmt := top 11
abbrev s_common : Stmt := top 12
abbrev s_check_base : Stmt := top 13
abbrev s_check_number : Stmt := top 14
abbrev s_check_count : Stmt := top 15
abbrev s_parted : Stmt := top 16
abbrev s_are_figures : Stmt := top 19
abbrev s_read : Stmt := top 20
abbrev s_plain : Stmt := top 21
abbrev s_carried : Stmt := top 24
abbrev s_summed : Stmt := top 25
abbrev s_check_row : Stmt := top 31
abbrev s_row_of : Stmt := top 32
abbrev s_written : Stmt := top 33
abbrev s_judged : Stmt := top 34
abbrev s_worth : Stmt := top 35
abbrev s_check_whole : Stmt := top 36
abbrev s_carrying : Stmt := top 39
abbrev s_added : Stmt := top 40
abbrev s_times : Stmt := top 41
abbrev s_taken : Stmt := top 42
abbrev s_undone : Stmt := top 45
abbrev s_ending : Stmt := top 46
abbrev s_law_cell_at : Stmt := top 48
abbrev s_law_draw : Stmt := top 49
abbrev s_law_number : Stmt := top 50
abbrev s_law_deep : Stmt := top 51
abbrev s_law_spoilt : Stmt := top 52
abbrev s_law_put : Stmt := top 53
abbrev s_law_door_right : Stmt := top 54
abbrev s_law_two : Stmt := top 55
abbrev s_law_doors_right : Stmt := top 56
abbrev s_law_judged : Stmt := top 57
abbrev s_law_added : Stmt := top 58
abbrev s_law_times : Stmt := top 59
abbrev s_law : Stmt := top 60
abbrev s_Writes___init__ : Stmt := inClass (top 22) 0
abbrev s_Writes_shows : Stmt := inClass (top 22) 1
abbrev s_Breaks___init__ : Stmt := inClass (top 23) 0
abbrev s_Breaks_shows : Stmt := inClass (top 23) 1
abbrev s_Sum___init__ : Stmt := inClass (top 26) 0
abbrev s_Sum_shows : Stmt := inClass (top 26) 1
abbrev s_Times___init__ : Stmt := inClass (top 27) 0
abbrev s_Times_shows : Stmt := inClass (top 27) 1
def ql_0 : Str := "law" ++ ".<locals>." ++ "<lambda>"
abbrev tabsT (c : Nat → Addr) : List (Addr × Str) := [(c 40, ql_0)]
structure TabsB (base : Heap) (mg : Str → Option Value) (c : Nat → Addr) : Prop where
  b0 : LamX.TabB base mg (c 20) (c 40)
/-- what the top has written -/
structure Top (K : PySem.W.Frag) (mg : Str → Option Value) (c : Nat → Addr) : Prop where
  f_is_whole : Fn0 K mg "is_whole" ["thing"] s_is_whole
  f_common : Fn0 K mg "common" ["one", "other"] s_common
  f_check_base : Fn0 K mg "check_base" ["base"] s_check_base
  f_check_number : Fn0 K mg "check_number" ["number", "least"] s_check_number
  f_check_count : Fn0 K mg "check_count" ["count", "least", "most"] s_check_count
  f_parted : Fn0 K mg "parted" ["base", "number"] s_parted
  f_are_figures : Fn0 K mg "are_figures" ["base", "thing"] s_are_figures
  f_read : Fn0 K mg "read" ["base", "row"] s_read
  f_plain : Fn0 K mg "plain" ["row"] s_plain
  f_carried : Fn0 K mg "carried" ["base", "sums", "row", "carries"] s_carried
  f_summed : Fn0 K mg "summed" ["one", "other"] s_summed
  f_check_row : Fn0 K mg "check_row" ["base", "row"] s_check_row
  f_row_of : Fn0 K mg "row_of" ["base", "number"] s_row_of
  f_written : Fn0 K mg "written" ["base", "number"] s_written
  f_judged : Fn0 K mg "judged" ["base", "row"] s_judged
  f_worth : Fn0 K mg "worth" ["base", "row"] s_worth
  f_check_whole : Fn0 K mg "check_whole" ["base", "row"] s_check_whole
  f_carrying : Fn0 K mg "carrying" ["base", "sums"] s_carrying
  f_added : Fn0 K mg "added" ["base", "one", "other"] s_added
  f_times : Fn0 K mg "times" ["base", "row", "factor"] s_times
  f_taken : Fn0 K mg "taken" ["base", "one", "other"] s_taken
  f_undone : Fn0 K mg "undone" ["number", "modulus"] s_undone
  f_ending : Fn0 K mg "ending" ["base", "row"] s_ending
  f_law_cell_at : Fn0 K mg "_law_cell_at" ["_law_script", "_law_k"] s_law_cell_at
  f_law_draw : Fn0 K mg "_law_draw" ["_law_cell", "_law_k", "_law_most"] s_law_draw
  f_law_number : Fn0 K mg "_law_number" ["_law_cell", "_law_k", "_law_limit"] s_law_number
  f_law_deep : Fn0 K mg "_law_deep" ["_law_thing"] s_law_deep
  f_law_spoilt : Fn0 K mg "_law_spoilt" ["_law_found"] s_law_spoilt
  f_law_put : Fn0 K mg "_law_put" ["_law_handed", "_law_some"] s_law_put
  f_law_door_right : Fn0 K mg "_law_door_right" ["_law_ask", "_law_lists", "_law_others"] s_law_door_right
  f_law_two : Fn0 K mg "_law_two" ["_law_found"] s_law_two
  f_law_doors_right : Fn0 K mg "_law_doors_right" ["_law_asks", "_law_lists", "_law_others"] s_law_doors_right
  f_law_judged : Fn0 K mg "_law_judged" ["_law_row"] s_law_judged
  f_law_added : Fn0 K mg "_law_added" ["_law_one", "_law_other"] s_law_added
  f_law_times : Fn0 K mg "_law_times" ["_law_row", "_law_factor"] s_law_times
  f_law : FnM0 K mg "law" ["_law_script"] s_law (c 20)
  tu_law : ∀ p ∈ tabsT c, p.1 = c 40 → p.2 = ql_0
  n_isinstance : mg "isinstance" = none
  n_int : mg "int" = none
  n_bool : mg "bool" = none
  n_tuple : mg "tuple" = none
  n_list : mg "list" = none
  n_len : mg "len" = none
  n_all : mg "all" = none
  n_max : mg "max" = none
  n_range : mg "range" = none
  n_enumerate : mg "enumerate" = none
  n_zip : mg "zip" = none
  n_str : mg "str" = none
  c_GREATEST : ∃ t, mg "GREATEST" = some (.int 60 t)
  c_LONGEST : ∃ t, mg "LONGEST" = some (.int 200 t)
  c_MOST_rows : ∃ t, mg "MOST_rows" = some (.int 2000 t)
  c_MOST_TIMES : ∃ t, mg "MOST_TIMES" = some (.int 1000 t)
  c_MOST_endings : ∃ t, mg "MOST_endings" = some (.int 40 t)
  m_Writes : mg "Writes" = some (.ref (c 1))
  o_Writes : OwnC K (c 1)
  a_Writes_number : NoAttr K (c 1) "number"
  i_Writes : I0 K (c 1) "Writes.__init__" ["self", "number"] s_Writes___init__
  m_Breaks : mg "Breaks" = some (.ref (c 2))
  o_Breaks : OwnC K (c 2)
  a_Breaks_place : NoAttr K (c 2) "place"
  a_Breaks_left : NoAttr K (c 2) "left"
  i_Breaks : I0 K (c 2) "Breaks.__init__" ["self", "place", "left"] s_Breaks___init__
  m_Sum : mg "Sum" = some (.ref (c 3))
  o_Sum : OwnC K (c 3)
  a_Sum_row : NoAttr K (c 3) "row"
  a_Sum_carries : NoAttr K (c 3) "carries"
  i_Sum : I0 K (c 3) "Sum.__init__" ["self", "row", "carries"] s_Sum___init__
  m_Times : mg "Times" = some (.ref (c 4))
  o_Times : OwnC K (c 4)
  a_Times_row : NoAttr K (c 4) "row"
  a_Times_carries : NoAttr K (c 4) "carries"
  i_Times : I0 K (c 4) "Times.__init__" ["self", "row", "carries"] s_Times___init__
  w_Writes : M0 K (c 1) "shows" "Writes.shows" ["self", "base", "row"] s_Writes_shows
  w_Breaks : M0 K (c 2) "shows" "Breaks.shows" ["self", "base", "row"] s_Breaks_shows
  w_Sum : M0 K (c 3) "shows" "Sum.shows" ["self", "base", "one", "other"] s_Sum_shows
  w_Times : M0 K (c 4) "shows" "Times.shows" ["self", "base", "row", "factor"] s_Times_shows
  q_Writes : AskC K (c 1)
  k_Writes_Writes : PySem.W.subIn K (.ref (c 1)) (.ref (c 1)) = some true ∧ (((.ref (c 1) : Value) == (.ref (c 1) : Value)) = true → true = true)
  k_Breaks_Writes : PySem.W.subIn K (.ref (c 2)) (.ref (c 1)) = some false ∧ (((.ref (c 2) : Value) == (.ref (c 1) : Value)) = true → false = true)
  k_Sum_Writes : PySem.W.subIn K (.ref (c 3)) (.ref (c 1)) = some false ∧ (((.ref (c 3) : Value) == (.ref (c 1) : Value)) = true → false = true)
  k_Times_Writes : PySem.W.subIn K (.ref (c 4)) (.ref (c 1)) = some false ∧ (((.ref (c 4) : Value) == (.ref (c 1) : Value)) = true → false = true)
def spLaw (T : List (Addr × Str)) (K : PySem.W.Frag) : Sp := fun vs H Q _ => ∃ (a : Addr) (ns : List Int), vs = [.ref a] ∧ IR K H a ns ∧ ns.length ≤ 63 ∧ TBS T H ∧ ∀ H', Q (.bl true) H'
/-! ### endings -/
theorem GB.cop {a b : Int} (g : GB a b) (m : Nat) : Nat.Coprime (a ^ m).natAbs b.natAbs := by
  rw [Int.natAbs_pow]
  exact Nat.Coprime.pow_left m g.g
theorem dvd_of_mul {a b x : Int} {m : Nat} (g : GB a b) (h : a ^ m ∣ b * x) : a ^ m ∣ x := by
  rw [← Int.natAbs_dvd_natAbs] at h ⊢
  rw [Int.natAbs_mul] at h
  exact Nat.Coprime.dvd_of_dvd_mul_left (g.cop m) h
def lastF (a b : Int) : Nat → Int → List Int
  | 0, _ => []
  | m + 1, n => lastF a b m (b * n / a) ++ [b * n % a]
theorem lastF_len (a b : Int) : ∀ (m : Nat) (n : Int), (lastF a b m n).length = m
  | 0, _ => rfl
  | m + 1, n => by
    show (lastF a b m (b * n / a) ++ [b * n % a]).length = m + 1
    rw [List.length_append, lastF_len a b m]
    rfl
theorem lastF_fig {a b : Int} (ha : 0 < a) : ∀ (m : Nat) (n : Int), ∀ x ∈ lastF a b m n, 0 ≤ x ∧ x < a
  | 0, _ => fun x h => by simp [lastF] at h
  | m + 1, n => fun x h => by
    rcases List.mem_append.mp h with h | h
    · exact lastF_fig ha m _ x h
    · rw [List.mem_singleton.mp h]
      exact ⟨Int.emod_nonneg _ (by omega), Int.emod_lt_of_pos _ ha⟩
theorem pow_pos' {a : Int} (ha : 0 < a) (m : Nat) : 0 < a ^ m := Int.pow_pos ha
theorem sub_div {a x y : Int} (ha : 0 < a) (h : x % a = y % a) : x - y = a * (x / a - y / a) := by
  have h1 := Int.mul_ediv_add_emod x a
  have h2 := Int.mul_ediv_add_emod y a
  rw [Int.mul_sub]
  omega
theorem lastF_iff {a b : Int} (g : GB a b) : ∀ (m : Nat) (x y : Int), lastF a b m x = lastF a b m y ↔ a ^ m ∣ x - y
  | 0, x, y => by
    rw [Int.pow_zero]
    exact ⟨fun _ => Int.one_dvd _, fun _ => rfl⟩
  | m + 1, x, y => by
    have ha : 0 < a := by have := g.ok; omega
    constructor
    · intro h
      obtain ⟨h1, h2⟩ := List.append_inj h (by rw [lastF_len, lastF_len])
      have h3 : b * x % a = b * y % a := by simpa using h2
      obtain ⟨q, hq⟩ := (lastF_iff g m _ _).mp h1
      refine dvd_of_mul g ⟨q, ?_⟩
      rw [Int.mul_sub, sub_div ha h3, hq, Int.pow_succ, Int.mul_comm (a ^ m) a, Int.mul_assoc]
    · rintro ⟨q, hq⟩
      have e : b * x = b * y + a * (a ^ m * (b * q)) := by
        have : b * x - b * y = b * (a ^ (m + 1) * q) := by rw [← Int.mul_sub, hq]
        rw [Int.pow_succ] at this
        have e2 : b * (a ^ m * a * q) = a * (a ^ m * (b * q)) := by
          rw [Int.mul_comm (a ^ m) a, Int.mul_assoc, Int.mul_left_comm b a, Int.mul_left_comm b]
        omega
      have e1 : b * x % a = b * y % a := by rw [e, Int.add_mul_emod_self_left]
      have e2 : b * x / a = b * y / a + a ^ m * (b * q) := by rw [e, Int.add_mul_ediv_left _ _ (by omega)]
      show lastF a b m (b * x / a) ++ [b * x % a] = lastF a b m (b * y / a) ++ [b * y % a]
      rw [e1, (lastF_iff g m (b * x / a) (b * y / a)).mpr ⟨b * q, by rw [e2]; omega⟩]
theorem end_step {a b f first u : Int} {k : Nat} {pre : List Int} (g : GB a b) (h0 : 0 ≤ f) (h1 : f < a) (h : lastF a b k first = pre) (hu : b * u % a ^ (k + 1) = 1 % a ^ (k + 1)) :
    lastF a b (k + 1) ((a * first + f) * u % a ^ (k + 1)) = pre ++ [f] := by
  have ha : 0 < a := by have := g.ok; omega
  have hN : 0 < a ^ (k + 1) := pow_pos' ha _
  have e1 := sub_div hN hu
  have e2 := Int.mul_ediv_add_emod ((a * first + f) * u) (a ^ (k + 1))
  -- b times it is X and a multiple of the modulus
  obtain ⟨q, hq⟩ : ∃ q, b * ((a * first + f) * u % a ^ (k + 1)) = f + a * (first + a ^ k * q) := by
    refine ⟨(a * first + f) * (b * u / a ^ (k + 1) - 1 / a ^ (k + 1)) - b * ((a * first + f) * u / a ^ (k + 1)), ?_⟩
    have e3 : (a * first + f) * u % a ^ (k + 1) = (a * first + f) * u - a ^ (k + 1) * ((a * first + f) * u / a ^ (k + 1)) := by omega
    have e4 : b * ((a * first + f) * u) = (a * first + f) * (1 + a ^ (k + 1) * (b * u / a ^ (k + 1) - 1 / a ^ (k + 1))) := by
      rw [show (1 : Int) + a ^ (k + 1) * (b * u / a ^ (k + 1) - 1 / a ^ (k + 1)) = b * u from by omega, Int.mul_left_comm]
    rw [e3, Int.mul_sub, e4, Int.mul_add, Int.mul_one, Int.mul_add, Int.mul_sub (a ^ k), Int.mul_sub a (a ^ k * _)]
    rw [Int.pow_succ, Int.mul_comm (a ^ k) a]
    rw [Int.mul_left_comm (a * first + f) (a * a ^ k), Int.mul_left_comm b (a * a ^ k)]
    rw [Int.mul_assoc a (a ^ k), Int.mul_assoc a (a ^ k)]
    omega
  have e5 : b * ((a * first + f) * u % a ^ (k + 1)) % a = f := by rw [hq, Int.add_mul_emod_self_left, Int.emod_eq_of_lt h0 h1]
  have e6 : b * ((a * first + f) * u % a ^ (k + 1)) / a = first + a ^ k * q := by rw [hq, Int.add_mul_ediv_left _ _ (by omega), Int.ediv_eq_zero_of_lt h0 h1, Int.zero_add]
  show lastF a b k _ ++ [_] = pre ++ [f]
  rw [e5, e6, ← h, (lastF_iff g k (first + a ^ k * q) first).mpr ⟨q, by omega⟩]
theorem end_one {a b x y : Int} {m : Nat} (g : GB a b) (h : lastF a b m x = lastF a b m y) (x0 : 0 ≤ x) (x1 : x < a ^ m) (y0 : 0 ≤ y) (y1 : y < a ^ m) : x = y := by
  obtain ⟨q, hq⟩ := (lastF_iff g m x y).mp h
  have h1 : x % a ^ m = y % a ^ m := by
    rw [show x = y + a ^ m * q from by omega, Int.add_mul_emod_self_left]
  rw [Int.emod_eq_of_lt x0 x1, Int.emod_eq_of_lt y0 y1] at h1
  exact h1
theorem pow_lt {a : Int} (h0 : 0 ≤ a) (h : a ≤ 60) (m : Nat) : (a ^ m).natAbs < 2 ^ (6 * m + 1) := by
  rw [Int.natAbs_pow]
  have h1 : a.natAbs ^ m ≤ 64 ^ m := Nat.pow_le_pow_left (by omega) m
  have h2 : (64 : Nat) ^ m = 2 ^ (6 * m) := by rw [show (64 : Nat) = 2 ^ 6 from rfl, ← Nat.pow_mul]
  rw [Nat.pow_succ]
  have h3 : 0 < 2 ^ (6 * m) := Nat.pow_pos (by decide)
  omega
/-! ### rows read, beginnings -/
theorem row_len_ratio {a b p q : Int} (hb : 1 ≤ b) (ha : b < a) (hp : 0 < p) (hq : 0 < q) (h9 : q * b ≤ p * a) : ∀ (k : Nat) (n : Int), 0 ≤ n → n * p ^ k < q ^ k → (row a b n).length ≤ k
  | 0, n, h0, h => by
    have : n = 0 := by simp at h; omega
    subst this
    rw [row_nil (by omega)]
    simp
  | k + 1, n, h0, h => by
    by_cases hn : 0 < n
    · rw [row_len_step hb ha hn]
      have e1 : q * (b * n / a) ≤ p * n := by
        have h1 : a * (b * n / a) ≤ b * n := Int.mul_ediv_self_le (by omega)
        have h2 : q * b * n ≤ p * a * n := Int.mul_le_mul_of_nonneg_right h9 h0
        have h3 : a * (q * (b * n / a)) ≤ a * (p * n) := by
          have := Int.mul_le_mul_of_nonneg_left h1 (show (0 : Int) ≤ q by omega)
          calc a * (q * (b * n / a)) = q * (a * (b * n / a)) := by rw [Int.mul_left_comm]
            _ ≤ q * (b * n) := this
            _ = q * b * n := by rw [Int.mul_assoc]
            _ ≤ p * a * n := h2
            _ = a * (p * n) := by rw [Int.mul_comm p a, Int.mul_assoc]
        exact Int.le_of_mul_le_mul_left h3 (by omega)
      have e2 : b * n / a * p ^ k < q ^ k := by
        have pp : (0 : Int) < p ^ k := Int.pow_pos hp
        have h4 : q * (b * n / a) * p ^ k ≤ p * n * p ^ k := Int.mul_le_mul_of_nonneg_right e1 (Int.le_of_lt pp)
        rw [Int.pow_succ, Int.pow_succ] at h
        have h5 : p * n * p ^ k = n * (p ^ k * p) := by
          rw [Int.mul_comm p n, Int.mul_assoc, Int.mul_comm (p ^ k) p]
        have h6 : q * (b * n / a) * p ^ k = b * n / a * p ^ k * q := by rw [Int.mul_assoc, Int.mul_comm q]
        have h7 : b * n / a * p ^ k * q < q ^ k * q := by omega
        exact Int.lt_of_mul_lt_mul_right h7 (by omega)
      have := row_len_ratio hb ha hp hq h9 k _ (div_nn hb ha h0) e2
      omega
    · rw [row_nil (by omega)]
      simp
theorem row_len_any {a b n : Int} (g : GB a b) (h0 : 0 ≤ n) (h1 : n ≤ 10 ^ 61) : (row a b n).length ≤ 8500 := by
  have gg := g.ok
  refine row_len_ratio g.b1 g.ba (p := 59) (q := 60) (by decide) (by decide) (by omega) 8500 n h0 ?_
  have e : (10 : Int) ^ 61 * 59 ^ 8500 < 60 ^ 8500 := by decide +kernel
  have : n * 59 ^ 8500 ≤ 10 ^ 61 * 59 ^ 8500 := Int.mul_le_mul_of_nonneg_right h1 (by decide +kernel)
  omega
def rdo (a b : Int) : Int → List Int → Option Int
  | x, [] => some x
  | x, f :: r => if (a * x + f) % b = 0 then rdo a b ((a * x + f) / b) r else none
theorem rdo_append (a b : Int) : ∀ (l : List Int) (x : Int) (r : List Int), rdo a b x (l ++ r) = (rdo a b x l).bind fun y => rdo a b y r
  | [], x, r => rfl
  | f :: l, x, r => by
    show (if (a * x + f) % b = 0 then rdo a b ((a * x + f) / b) (l ++ r) else none) = (if (a * x + f) % b = 0 then rdo a b ((a * x + f) / b) l else none).bind fun y => rdo a b y r
    by_cases h : (a * x + f) % b = 0
    · rw [if_pos h, if_pos h, rdo_append a b l]
    · rw [if_neg h, if_neg h]; rfl
theorem rdo_row {a b : Int} (hb : 1 ≤ b) (ha : b < a) : ∀ n, 0 ≤ n → rdo a b 0 (row a b n) = some n := by
  refine row_ind hb ha (by rw [row_nil (Int.le_refl 0)]; rfl) fun n h ih => ?_
  rw [row_step hb ha h, rdo_append, ih]
  have e := Int.mul_ediv_add_emod (b * n) a
  show (if (a * (b * n / a) + b * n % a) % b = 0 then rdo a b ((a * (b * n / a) + b * n % a) / b) [] else none) = some n
  rw [e, if_pos (Int.mul_emod_right b n), Int.mul_ediv_cancel_left n (by omega)]
  rfl
theorem row_inj {a b x y : Int} (hb : 1 ≤ b) (ha : b < a) (hx : 0 ≤ x) (hy : 0 ≤ y) (h : row a b x = row a b y) : x = y := by
  have h1 := rdo_row hb ha x hx
  rw [h, rdo_row hb ha y hy] at h1
  exact (Option.some.inj h1).symm
/-- the number and -1, or what is left and where -/
def readF (a b : Int) : Int → Int → List Int → Int × Int
  | x, _, [] => (x, -1)
  | x, p, f :: r => if (a * x + f) % b = 0 then readF a b ((a * x + f) / b) (p + 1) r else ((a * x + f) % b, p)
theorem readF_cons {a b x p f : Int} {r : List Int} : readF a b x p (f :: r) = if (a * x + f) % b = 0 then readF a b ((a * x + f) / b) (p + 1) r else ((a * x + f) % b, p) := rfl
theorem div_abs {t b : Int} (hb : 1 ≤ b) : (t / b).natAbs ≤ t.natAbs := by
  have e := Int.mul_ediv_add_emod t b
  have r0 := Int.emod_nonneg t (show b ≠ 0 by omega)
  have r1 := Int.emod_lt_of_pos t (show 0 < b by omega)
  generalize t / b = q at e ⊢
  rcases Int.lt_or_le q 0 with h | h
  · have : b * (q + 1) ≤ 1 * (q + 1) := Int.mul_le_mul_of_nonpos_right hb (by omega)
    rw [Int.mul_add] at this
    omega
  · have : 1 * q ≤ b * q := Int.mul_le_mul_of_nonneg_right hb h
    omega
theorem readF_ok {a b : Int} : ∀ (l : List Int) (x y p : Int), rdo a b x l = some y → readF a b x p l = (y, -1)
  | [], x, y, p, h => by
    have : x = y := Option.some.inj h
    rw [this]; rfl
  | f :: l, x, y, p, h => by
    unfold rdo at h
    unfold readF
    by_cases z : (a * x + f) % b = 0
    · rw [if_pos z] at h ⊢
      exact readF_ok l _ y _ h
    · rw [if_neg z] at h
      cases h
theorem readF_bad {a b : Int} : ∀ (l : List Int) (x p : Int), 0 ≤ p → rdo a b x l = none → 0 ≤ (readF a b x p l).2
  | [], x, p, _, h => by cases h
  | f :: l, x, p, hp, h => by
    unfold rdo at h
    unfold readF
    by_cases z : (a * x + f) % b = 0
    · rw [if_pos z] at h ⊢
      exact readF_bad l _ _ (by omega) h
    · rw [if_neg z]
      exact hp
def wayN (a b : Int) : Nat → Int → List Int
  | 0, n => [n]
  | k + 1, n => if 0 < n then wayN a b k (b * n / a) ++ [n] else [n]
def ways (a b n : Int) : List Int := wayN a b n.toNat n
theorem wayN_any {a b : Int} (hb : 1 ≤ b) (ha : b < a) : ∀ (k j : Nat) (n : Int), n ≤ k → n ≤ j → wayN a b k n = wayN a b j n
  | 0, 0, _, _, _ => rfl
  | 0, j + 1, n, h, _ => by
    have : ¬ 0 < n := by omega
    simp [wayN, this]
  | k + 1, 0, n, _, h => by
    have : ¬ 0 < n := by omega
    simp [wayN, this]
  | k + 1, j + 1, n, h1, h2 => by
    unfold wayN
    by_cases h : 0 < n
    · have := div_lt' hb ha h
      rw [if_pos h, if_pos h, wayN_any hb ha k j _ (by omega) (by omega)]
    · rw [if_neg h, if_neg h]
theorem ways_zero {a b : Int} : ways a b 0 = [0] := rfl
theorem ways_step {a b n : Int} (hb : 1 ≤ b) (ha : b < a) (h : 0 < n) : ways a b n = ways a b (b * n / a) ++ [n] := by
  unfold ways
  obtain ⟨k, e⟩ : ∃ k, n.toNat = k + 1 := ⟨n.toNat - 1, by omega⟩
  have := div_lt' hb ha h
  rw [e]
  show (if 0 < n then wayN a b k (b * n / a) ++ [n] else [n]) = _
  rw [if_pos h, wayN_any hb ha k (b * n / a).toNat _ (by omega) (by omega)]
theorem ways_len {a b : Int} (hb : 1 ≤ b) (ha : b < a) : ∀ n, 0 ≤ n → (ways a b n).length = (row a b n).length + 1 := by
  refine row_ind hb ha (by rw [row_nil (Int.le_refl 0)]; rfl) fun n h ih => ?_
  rw [ways_step hb ha h, row_len_step hb ha h, List.length_append, ih]
  rfl
theorem ways_at {a b : Int} (hb : 1 ≤ b) (ha : b < a) : ∀ n, 0 ≤ n → ∀ k, k ≤ (row a b n).length → ∃ u, (ways a b n)[k]? = some u ∧ 0 ≤ u ∧ u ≤ n ∧ row a b u = (row a b n).take k := by
  refine row_ind hb ha (fun k hk => ?_) fun n h ih k hk => ?_
  · rw [row_nil (Int.le_refl 0)] at hk
    have : k = 0 := by simpa using hk
    subst this
    exact ⟨0, rfl, Int.le_refl 0, Int.le_refl 0, by rw [row_nil (Int.le_refl 0)]; rfl⟩
  · have l := div_lt' hb ha h
    have hl := ways_len hb ha _ (div_nn hb ha (show 0 ≤ n by omega))
    rw [row_len_step hb ha h] at hk
    rw [ways_step hb ha h]
    by_cases e : k ≤ (row a b (b * n / a)).length
    · obtain ⟨u, h1, h2, h3, h4⟩ := ih k e
      refine ⟨u, ?_, h2, by omega, ?_⟩
      · rw [List.getElem?_append_left (by omega)]; exact h1
      · rw [h4, row_step hb ha h, List.take_append_of_le_length e]
    · have ek : k = (row a b (b * n / a)).length + 1 := by omega
      subst ek
      refine ⟨n, ?_, by omega, Int.le_refl n, ?_⟩
      · rw [List.getElem?_append_right (by omega), hl, Nat.sub_self]; rfl
      · rw [← row_len_step hb ha h, List.take_length]
/-- the longest common beginning of two lists -/
def cpl : List Int → List Int → Nat
  | x :: xs, y :: ys => if x = y then cpl xs ys + 1 else 0
  | _, _ => 0
theorem cpl_take : ∀ xs ys : List Int, xs.take (cpl xs ys) = ys.take (cpl xs ys)
  | [], [] => rfl
  | [], _ :: _ => rfl
  | _ :: _, [] => rfl
  | x :: xs, y :: ys => by
    unfold cpl
    by_cases h : x = y
    · rw [if_pos h, List.take_succ_cons, List.take_succ_cons, h, cpl_take xs ys]
    · rw [if_neg h]; rfl
theorem cpl_max : ∀ (xs ys : List Int) (k : Nat), k ≤ xs.length → k ≤ ys.length → xs.take k = ys.take k → k ≤ cpl xs ys
  | [], _, k, h, _, _ => by simp at h; omega
  | _ :: _, [], k, _, h, _ => by simp at h; omega
  | x :: xs, y :: ys, 0, _, _, _ => Nat.zero_le _
  | x :: xs, y :: ys, k + 1, h1, h2, h => by
    rw [List.take_succ_cons, List.take_succ_cons] at h
    injection h with e1 e2
    unfold cpl
    rw [if_pos e1]
    have := cpl_max xs ys k (by simpa using h1) (by simpa using h2) e2
    omega
theorem cpl_le : ∀ xs ys : List Int, cpl xs ys ≤ xs.length ∧ cpl xs ys ≤ ys.length
  | [], _ => by cases ‹List Int› <;> simp [cpl]
  | _ :: _, [] => by simp [cpl]
  | x :: xs, y :: ys => by
    have := cpl_le xs ys
    unfold cpl
    split
    · simp; omega
    · simp
/-- w is the number of the longest row with which both rows begin -/
def Mt (a b n m w : Int) : Prop := 0 ≤ w ∧ row a b w = (row a b n).take (cpl (row a b n) (row a b m))
theorem Mt.one {a b n m w u : Int} (hb : 1 ≤ b) (ha : b < a) (h : Mt a b n m w) (h' : Mt a b n m u) : w = u := row_inj hb ha h.1 h'.1 (h.2.trans h'.2.symm)
theorem cpl_comm : ∀ xs ys : List Int, cpl xs ys = cpl ys xs
  | [], [] => rfl
  | [], _ :: _ => rfl
  | _ :: _, [] => rfl
  | x :: xs, y :: ys => by
    unfold cpl
    by_cases h : x = y
    · rw [if_pos h, if_pos h.symm, cpl_comm xs ys]
    · rw [if_neg h, if_neg fun z => h z.symm]
theorem Mt.symm {a b n m w : Int} (h : Mt a b n m w) : Mt a b m n w := by
  refine ⟨h.1, ?_⟩
  rw [h.2, cpl_comm (row a b m), ← cpl_take, cpl_comm]
/-- the loop of meet -/
def cmn : List Int → List Int → Int → Int
  | x :: xs, y :: ys, acc => if x = y then cmn xs ys x else acc
  | _, _, acc => acc
theorem cmn_cons {x y acc : Int} {xs ys : List Int} : cmn (x :: xs) (y :: ys) acc = if x = y then cmn xs ys x else acc := rfl
theorem cmn_at : ∀ (xs ys : List Int) (acc : Int) (k : Nat) (u : Int), xs.take (k + 1) = ys.take (k + 1) → xs[k]? = some u → (∀ v, xs[k + 1]? = some v → ys[k + 1]? ≠ some v) → cmn xs ys acc = u
  | [], _, _, _, _, _, h, _ => by simp at h
  | _ :: _, [], _, _, _, h, _, _ => by simp at h
  | x :: xs, y :: ys, acc, 0, u, h, h1, h2 => by
    rw [List.take_succ_cons, List.take_succ_cons] at h
    injection h with e1 e2
    unfold cmn
    rw [if_pos e1]
    have eu : x = u := Option.some.inj h1
    rw [← eu]
    match xs, ys, h2 with
    | [], ys, _ => cases ys <;> rfl
    | _ :: _, [], _ => rfl
    | v :: _, w :: _, h2 =>
      unfold cmn
      rw [if_neg]
      intro e
      exact h2 v rfl (by rw [e]; rfl)
  | x :: xs, y :: ys, acc, k + 1, u, h, h1, h2 => by
    rw [List.take_succ_cons, List.take_succ_cons] at h
    injection h with e1 e2
    unfold cmn
    rw [if_pos e1]
    exact cmn_at xs ys x k u e2 h1 h2
theorem take_ext {xs ys : List Int} : ∀ {k : Nat}, (∀ i, i < k → xs[i]? = ys[i]?) → xs.take k = ys.take k := fun {k} h => by
  apply List.ext_getElem?
  intro i
  by_cases hi : i < k
  · rw [List.getElem?_take_of_lt hi, List.getElem?_take_of_lt hi, h i hi]
  · rw [List.getElem?_take_eq_none (by omega), List.getElem?_take_eq_none (by omega)]
theorem meet_ok {a b n m : Int} (hb : 1 ≤ b) (ha : b < a) (hn : 0 ≤ n) (hm : 0 ≤ m) : Mt a b n m (cmn (ways a b n) (ways a b m) 0) := by
  have hc := cpl_le (row a b n) (row a b m)
  have ln := ways_len hb ha n hn
  have lm := ways_len hb ha m hm
  -- alike at i just if the beginnings of that length are
  have key : ∀ i, i ≤ (row a b n).length → i ≤ (row a b m).length → ((ways a b n)[i]? = (ways a b m)[i]? ↔ (row a b n).take i = (row a b m).take i) := by
    intro i h1 h2
    obtain ⟨u, e1, u0, _, r1⟩ := ways_at hb ha n hn i h1
    obtain ⟨v, e2, v0, _, r2⟩ := ways_at hb ha m hm i h2
    rw [e1, e2]
    constructor
    · intro h
      rw [← r1, ← r2, Option.some.inj h]
    · intro h
      rw [row_inj hb ha u0 v0 (r1.trans (h.trans r2.symm))]
  obtain ⟨w, e, w0, _, r⟩ := ways_at hb ha n hn _ hc.1
  have : cmn (ways a b n) (ways a b m) 0 = w := by
    refine cmn_at _ _ _ _ _ (take_ext fun i hi => (key i (by omega) (by omega)).mpr ?_) e fun v hv hv2 => ?_
    · have := congrArg (List.take i) (cpl_take (row a b n) (row a b m))
      rw [List.take_take, List.take_take, Nat.min_eq_left (by omega)] at this
      exact this
    · have l1 := (List.getElem?_eq_some_iff.mp hv).1
      have l2 := (List.getElem?_eq_some_iff.mp hv2).1
      have := cpl_max _ _ _ (by omega) (by omega) ((key _ (by omega) (by omega)).mp (hv.trans hv2.symm))
      omega
  rw [this]
  exact ⟨w0, r⟩
/-- the greater one may be put back by a step -/
theorem Mt.up {a b n m w : Int} (hb : 1 ≤ b) (ha : b < a) (hn : 0 ≤ n) (h : n < m) : Mt a b n m w ↔ Mt a b n (b * m / a) w := by
  have hm : 0 < m := by omega
  have e : cpl (row a b n) (row a b m) = cpl (row a b n) (row a b (b * m / a)) := by
    have c1 := cpl_le (row a b n) (row a b m)
    have c2 := cpl_le (row a b n) (row a b (b * m / a))
    have st := row_step hb ha hm
    refine Nat.le_antisymm ?_ ?_
    · refine cpl_max _ _ _ c1.1 ?_ ?_
      · rcases Nat.lt_or_ge (row a b (b * m / a)).length (cpl (row a b n) (row a b m)) with z | z
        · exfalso
          rw [row_len_step hb ha hm] at c1
          have e1 : cpl (row a b n) (row a b m) = (row a b m).length := by rw [row_len_step hb ha hm]; omega
          have e2 := cpl_take (row a b n) (row a b m)
          rw [e1, List.take_length] at e2
          -- the row of m is a beginning of the row of n, so m is no greater
          obtain ⟨u, _, u0, un, ur⟩ := ways_at hb ha n hn (row a b m).length (by omega)
          have := row_inj hb ha u0 (by omega) (ur.trans e2)
          omega
        · exact z
      · rcases Nat.lt_or_ge (row a b (b * m / a)).length (cpl (row a b n) (row a b m)) with z | z
        · exfalso
          rw [row_len_step hb ha hm] at c1
          have e1 : cpl (row a b n) (row a b m) = (row a b m).length := by rw [row_len_step hb ha hm]; omega
          have e2 := cpl_take (row a b n) (row a b m)
          rw [e1, List.take_length] at e2
          obtain ⟨u, _, u0, un, ur⟩ := ways_at hb ha n hn (row a b m).length (by omega)
          have := row_inj hb ha u0 (by omega) (ur.trans e2)
          omega
        · rw [cpl_take (row a b n) (row a b m)]
          generalize cpl (row a b n) (row a b m) = c at z ⊢
          rw [st, List.take_append_of_le_length z]
    · refine cpl_max _ _ _ c2.1 (by rw [row_len_step hb ha hm]; omega) ?_
      rw [cpl_take (row a b n) (row a b (b * m / a)), st, List.take_append_of_le_length c2.2]
  unfold Mt
  rw [e]
theorem Mt.self {a b n : Int} (h : 0 ≤ n) : Mt a b n n n := by
  have : ∀ xs : List Int, cpl xs xs = xs.length := fun xs => by
    have h1 := cpl_max xs xs xs.length (Nat.le_refl _) (Nat.le_refl _) rfl
    have h2 := (cpl_le xs xs).1
    omega
  exact ⟨h, by rw [this, List.take_length]⟩
theorem at_end {fs : List Int} {x : Int} : atI ((fs ++ [x]).map V.int) (-1) = some (.int x) := by
  rw [List.map_append]
  simp only [atI, ixN, List.map_cons, List.map_nil, List.length_append, List.length_cons, List.length_nil]
  rw [if_neg (by decide), if_pos (by omega)]
  simp only [Option.bind_some]
  rw [List.getElem?_append_right (by omega)]
  have e : ((-1 : Int) + (((fs.map V.int).length + (0 + 1) : Nat) : Int)).toNat - (fs.map V.int).length = 0 := by omega
  rw [e]
  rfl
/-- least and greatest below, again and again -/
def loN (a b : Int) : Nat → Int → Int
  | 0, n => n
  | k + 1, n => -(-a * loN a b k n / b)
def hiN (a b : Int) : Nat → Int → Int
  | 0, n => n
  | k + 1, n => (a * hiN a b k n + a - 1) / b
theorem row_fig {a b : Int} (hb : 1 ≤ b) (ha : b < a) : ∀ n, 0 ≤ n → ∀ x ∈ row a b n, 0 ≤ x ∧ x < a := by
  refine row_ind hb ha (fun x hx => by rw [row_nil (Int.le_refl 0)] at hx; cases hx) fun n h ih x hx => ?_
  rw [row_step hb ha h] at hx
  rcases List.mem_append.mp hx with z | z
  · exact ih x z
  · rw [List.mem_singleton.mp z]
    exact ⟨Int.emod_nonneg _ (by omega), Int.emod_lt_of_pos _ (by omega)⟩
/-! ### worth -/
def topF (a b : Int) : Int → Int → List Int → Int
  | t, _, [] => t
  | t, B, f :: r => topF a b (a * t + f * B) (B * b) r
theorem topF_snoc (a b : Int) : ∀ (l : List Int) (t B f : Int), topF a b t B (l ++ [f]) = a * topF a b t B l + f * (B * b ^ l.length)
  | [], t, B, f => by
    show a * t + f * B = a * t + f * (B * b ^ 0)
    rw [Int.pow_zero, Int.mul_one]
  | g :: l, t, B, f => by
    show topF a b (a * t + g * B) (B * b) (l ++ [f]) = a * topF a b (a * t + g * B) (B * b) l + f * (B * b ^ (l.length + 1))
    rw [topF_snoc a b l, Int.pow_succ, Int.mul_assoc B b, Int.mul_comm b (b ^ l.length)]
theorem snoc_ind {P : List Int → Prop} (h0 : P []) (hs : ∀ l f, P l → P (l ++ [f])) : ∀ l, P l := by
  intro l
  have : ∀ k, ∀ l : List Int, l.length = k → P l := by
    intro k
    induction k with
    | zero =>
      intro l hl
      rw [List.length_eq_zero_iff.mp hl]
      exact h0
    | succ k ih =>
      intro l hl
      have hne : l ≠ [] := by
        intro e
        rw [e] at hl
        cases hl
      rw [← List.dropLast_concat_getLast hne]
      refine hs _ _ (ih _ ?_)
      rw [List.length_dropLast, hl]
      rfl
  exact this _ l rfl
theorem GB.copb {a b : Int} (g : GB a b) (m : Nat) : Nat.Coprime (b ^ m).natAbs a.natAbs := by
  rw [Int.natAbs_pow]
  exact Nat.Coprime.pow_left m (Nat.Coprime.symm g.g)
theorem dvd_of_mulb {a b x : Int} {m : Nat} (g : GB a b) (h : b ^ m ∣ a * x) : b ^ m ∣ x := by
  rw [← Int.natAbs_dvd_natAbs] at h ⊢
  rw [Int.natAbs_mul] at h
  exact Nat.Coprime.dvd_of_dvd_mul_left (g.copb m) h
/-- the row writes y just if its worth is y -/
theorem top_iff {a b : Int} (g : GB a b) : ∀ (l : List Int) (y : Int), rdo a b 0 l = some y ↔ topF a b 0 1 l = y * b ^ l.length := by
  have gg := g.ok
  refine snoc_ind (fun y => ?_) fun l f ih y => ?_
  · show some 0 = some y ↔ 0 = y * b ^ 0
    rw [Int.pow_zero, Int.mul_one]
    exact ⟨fun h => Option.some.inj h, fun h => by rw [h]⟩
  · rw [rdo_append, topF_snoc, Int.one_mul, List.length_append, List.length_singleton, Int.pow_succ]
    have pb : 0 < b ^ l.length := Int.pow_pos (by omega)
    constructor
    · intro h
      cases e : rdo a b 0 l with
      | none => rw [e] at h; cases h
      | some z =>
        rw [e] at h
        have h : (if (a * z + f) % b = 0 then rdo a b ((a * z + f) / b) [] else none) = some y := h
        by_cases d : (a * z + f) % b = 0
        · rw [if_pos d] at h
          have hy : (a * z + f) / b = y := Option.some.inj h
          have e2 := Int.mul_ediv_add_emod (a * z + f) b
          rw [d, hy, Int.add_zero] at e2
          rw [(ih z).mp e, ← Int.mul_assoc, ← Int.add_mul, ← e2, Int.mul_comm b y, Int.mul_assoc, Int.mul_comm b]
        · rw [if_neg d] at h
          cases h
    · intro h
      have d : b ^ l.length ∣ topF a b 0 1 l := dvd_of_mulb g ⟨y * b - f, by
        rw [Int.mul_sub, Int.mul_comm _ (y * b), Int.mul_comm _ f, Int.mul_assoc y b, Int.mul_comm b (b ^ l.length)]
        omega⟩
      obtain ⟨z, hz⟩ := d
      have hz2 : topF a b 0 1 l = z * b ^ l.length := by rw [hz, Int.mul_comm]
      rw [(ih z).mpr hz2]
      rw [hz2, ← Int.mul_assoc, ← Int.add_mul, Int.mul_comm (b ^ l.length) b, ← Int.mul_assoc] at h
      have h2 : a * z + f = y * b := Int.eq_of_mul_eq_mul_right (by omega) h
      show (if (a * z + f) % b = 0 then rdo a b ((a * z + f) / b) [] else none) = some y
      rw [h2, if_pos (Int.mul_emod_left y b), Int.mul_ediv_cancel y (by omega)]
      rfl
theorem top_inj {a b : Int} (g : GB a b) : ∀ (l r : List Int), figs a l = true → figs a r = true → l.length = r.length → topF a b 0 1 l = topF a b 0 1 r → l = r := by
  have gg := g.ok
  refine snoc_ind (fun r _ _ hl _ => ?_) fun l f ih r hf hr hl h => ?_
  · exact (List.length_eq_zero_iff.mp hl.symm).symm
  · have hne : r ≠ [] := by
      intro e
      rw [e, List.length_append] at hl
      simp at hl
    rw [← List.dropLast_concat_getLast hne] at h hl hr ⊢
    generalize r.dropLast = r' at h hl hr ⊢
    generalize r.getLast hne = f' at h hl hr ⊢
    have hl' : l.length = r'.length := by
      rw [List.length_append, List.length_append] at hl
      simpa using hl
    rw [topF_snoc, topF_snoc, hl', Int.one_mul] at h
    have f0 := figs_mem hf (x := f) (by simp)
    have f1 := figs_mem hr (x := f') (by simp)
    have d : a ^ 1 ∣ b ^ r'.length * (f - f') := ⟨topF a b 0 1 r' - topF a b 0 1 l, by
      rw [Int.pow_one, Int.mul_sub, Int.mul_sub, Int.mul_comm _ f, Int.mul_comm _ f']
      omega⟩
    have d2 : a ∣ f - f' := by
      rw [Int.pow_one] at d
      rw [← Int.natAbs_dvd_natAbs] at d ⊢
      rw [Int.natAbs_mul] at d
      exact Nat.Coprime.dvd_of_dvd_mul_left (Nat.Coprime.symm (g.copb _)) d
    have ef : f = f' := by
      obtain ⟨k, hk⟩ := d2
      have : k = 0 := by
        rcases Int.lt_trichotomy k 0 with z | z | z
        · have : a * k ≤ a * (-1) := Int.mul_le_mul_of_nonneg_left (by omega) (by omega)
          omega
        · exact z
        · have : a * 1 ≤ a * k := Int.mul_le_mul_of_nonneg_left (by omega) (by omega)
          omega
      rw [this, Int.mul_zero] at hk
      omega
    subst ef
    have e2 : a * topF a b 0 1 l = a * topF a b 0 1 r' := by omega
    rw [ih r' (figs_of fun x hx => figs_mem hf (by simp [hx])) (figs_of fun x hx => figs_mem hr (by simp [hx])) hl' (Int.eq_of_mul_eq_mul_left (by omega) e2)]
theorem topF_lin {a b : Int} : ∀ (l : List Int) (k t B : Int), topF a b (k * t) (k * B) l = k * topF a b t B l
  | [], k, t, B => rfl
  | f :: r, k, t, B => by
    show topF a b (a * (k * t) + f * (k * B)) (k * B * b) r = k * topF a b (a * t + f * B) (B * b) r
    rw [← topF_lin r, Int.mul_assoc k B b, Int.mul_add, Int.mul_left_comm a k, Int.mul_left_comm f k]
/-- the pair with nothing in common -/
def red (t B : Int) : Int × Int := (t / (Int.gcd t B : Int), B / (Int.gcd t B : Int))
theorem red_lin {k t B : Int} (hk : 0 < k) : red (k * t) (k * B) = red t B := by
  unfold red
  have e : (Int.gcd (k * t) (k * B) : Int) = k * (Int.gcd t B : Int) := by
    rw [Int.gcd_mul_left, Int.natCast_mul, Int.natAbs_of_nonneg (by omega)]
  rw [e, Int.mul_ediv_mul_of_pos _ _ hk, Int.mul_ediv_mul_of_pos _ _ hk]
theorem red_inj {t u B : Int} (hB : 0 < B) (h : red t B = red u B) : t = u := by
  unfold red at h
  injection h with h1 h2
  have p1 : 0 < (Int.gcd t B : Int) := Int.natCast_pos.mpr (Int.gcd_pos_of_ne_zero_right _ (by omega))
  have p2 : 0 < (Int.gcd u B : Int) := Int.natCast_pos.mpr (Int.gcd_pos_of_ne_zero_right _ (by omega))
  have b1 := Int.ediv_mul_cancel (Int.gcd_dvd_right t B)
  have b2 := Int.ediv_mul_cancel (Int.gcd_dvd_right u B)
  have t1 := Int.ediv_mul_cancel (Int.gcd_dvd_left t B)
  have t2 := Int.ediv_mul_cancel (Int.gcd_dvd_left u B)
  have q0 : B / (Int.gcd t B : Int) ≠ 0 := by
    intro z
    rw [z, Int.zero_mul] at b1
    omega
  rw [← h2] at b2
  have eg : (Int.gcd t B : Int) = (Int.gcd u B : Int) := Int.eq_of_mul_eq_mul_left q0 (b1.trans b2.symm)
  rw [← t1, ← t2, h1, eg]
theorem red_one {t B : Int} (hB : 0 < B) : (red t B).2 = 1 ↔ ∃ y, t = y * B := by
  have b1 := Int.ediv_mul_cancel (Int.gcd_dvd_right t B)
  have t1 := Int.ediv_mul_cancel (Int.gcd_dvd_left t B)
  constructor
  · intro h
    have h : B / (Int.gcd t B : Int) = 1 := h
    rw [h, Int.one_mul] at b1
    exact ⟨t / (Int.gcd t B : Int), by rw [b1] at t1 ⊢; exact t1.symm⟩
  · rintro ⟨y, rfl⟩
    have e : (Int.gcd (y * B) B : Int) = B := by
      rw [Int.gcd_mul_left_left]
      omega
    show B / _ = 1
    rw [e, Int.ediv_self (by omega)]
theorem red_whole {y B : Int} (hB : 0 < B) : red (y * B) B = (y, 1) := by
  unfold red
  have e : (Int.gcd (y * B) B : Int) = B := by
    rw [Int.gcd_mul_left_left]
    omega
  rw [e, Int.ediv_self (by omega), Int.mul_ediv_cancel y (by omega)]
/-- by powers -/
def sumP (a b : Int) (n : Nat) : Nat → List Int → Int
  | _, [] => 0
  | i, f :: r => f * a ^ (n - 1 - i) * b ^ i + sumP a b n (i + 1) r
theorem topF_sum (a b : Int) : ∀ (r : List Int) (n i : Nat) (t : Int), n = i + r.length → topF a b t (b ^ i) r = t * a ^ r.length + sumP a b n i r
  | [], n, i, t, h => by
    show t = t * a ^ 0 + 0
    rw [Int.pow_zero, Int.mul_one, Int.add_zero]
  | f :: r, n, i, t, h => by
    show topF a b (a * t + f * b ^ i) (b ^ i * b) r = t * a ^ (r.length + 1) + (f * a ^ (n - 1 - i) * b ^ i + sumP a b n (i + 1) r)
    rw [List.length_cons] at h
    rw [← Int.pow_succ, topF_sum a b r n (i + 1) _ (by omega), show n - 1 - i = r.length by omega, Int.pow_succ a, Int.add_mul, Int.mul_assoc f, Int.mul_assoc f, Int.mul_comm (b ^ i), Int.mul_comm a t, Int.mul_assoc t, Int.mul_comm a]
    omega
theorem pow4 {a : Int} (h0 : 0 ≤ a) (h : a ≤ 60) : ∀ i : Nat, 0 ≤ a ^ i ∧ a ^ i ≤ 4096 ^ i
  | 0 => by rw [Int.pow_zero, Int.pow_zero]; decide
  | i + 1 => by
    obtain ⟨h1, h2⟩ := pow4 h0 h i
    rw [Int.pow_succ, Int.pow_succ]
    exact ⟨Int.mul_nonneg h1 h0, Int.mul_le_mul h2 (by omega) h0 (by omega)⟩
theorem p4096 (i : Nat) (hi : i ≤ 400) : (4096 : Int) ^ i < 2 ^ 5000 := by
  have e : ((4096 ^ i : Nat) : Int) = 4096 ^ i := by rw [Int.natCast_pow] <;> rfl
  have h := Nat.pow_le_pow_right (n := 4096) (by decide) hi
  have h2 : (4096 : Nat) ^ 400 < 2 ^ 5000 := by decide +kernel
  rw [← e]
  have e2 : (((2 : Nat) ^ 5000 : Nat) : Int) = 2 ^ 5000 := by rw [Int.natCast_pow] <;> rfl
  rw [← e2]
  omega
/-! ### adding -/
theorem rdo_snoc {a b : Int} {l : List Int} {f n : Int} (hb : 1 ≤ b) (h : rdo a b 0 (l ++ [f]) = some n) : ∃ M, rdo a b 0 l = some M ∧ b * n = a * M + f := by
  rw [rdo_append] at h
  cases e : rdo a b 0 l with
  | none => rw [e] at h; cases h
  | some z =>
    rw [e] at h
    have h : (if (a * z + f) % b = 0 then rdo a b ((a * z + f) / b) [] else none) = some n := h
    by_cases d : (a * z + f) % b = 0
    · rw [if_pos d] at h
      have hy : (a * z + f) / b = n := Option.some.inj h
      have e2 := Int.mul_ediv_add_emod (a * z + f) b
      exact ⟨z, rfl, by rw [← hy]; omega⟩
    · rw [if_neg d] at h
      cases h
theorem rdo_of_snoc {a b : Int} {l : List Int} {f n M : Int} (hb : 1 ≤ b) (h : rdo a b 0 l = some M) (e : b * n = a * M + f) : rdo a b 0 (l ++ [f]) = some n := by
  rw [rdo_append, h]
  show (if (a * M + f) % b = 0 then rdo a b ((a * M + f) / b) [] else none) = some n
  rw [← e, if_pos (Int.mul_emod_right b n), Int.mul_ediv_cancel_left n (by omega)]
  rfl
/-- without noughts ahead -/
def plainF : List Int → List Int
  | [] => []
  | x :: r => if x = 0 then plainF r else x :: r
theorem plainF_len : ∀ l, (plainF l).length ≤ l.length
  | [] => Nat.le_refl _
  | x :: r => by
    unfold plainF
    split
    · have := plainF_len r
      rw [List.length_cons]; omega
    · exact Nat.le_refl _
theorem plainF_mem : ∀ {l : List Int} {x : Int}, x ∈ plainF l → x ∈ l
  | [], _, h => h
  | y :: r, x, h => by
    unfold plainF at h
    split at h
    · exact List.mem_cons_of_mem _ (plainF_mem h)
    · exact h
theorem plainF_figs {a : Int} {l : List Int} (h : figs a l = true) : figs a (plainF l) = true := figs_of fun _ hx => figs_mem h (plainF_mem hx)
theorem plainF_rdo {a b : Int} : ∀ l : List Int, rdo a b 0 (plainF l) = rdo a b 0 l
  | [] => rfl
  | x :: r => by
    unfold plainF
    split
    · rename_i e
      rw [plainF_rdo r, e]
      show _ = if (a * 0 + 0) % b = 0 then rdo a b ((a * 0 + 0) / b) r else none
      simp
    · rfl
theorem plainF_head : ∀ {l : List Int} {x : Int}, (plainF l).head? = some x → x ≠ 0
  | [], _, h => by cases h
  | y :: r, x, h => by
    unfold plainF at h
    split at h
    · exact plainF_head h
    · rename_i e
      have h : some y = some x := h
      rw [← Option.some.inj h]
      exact e
theorem plainF_id : ∀ {l : List Int}, (∀ x, l.head? = some x → x ≠ 0) → plainF l = l
  | [], _ => rfl
  | x :: r, h => by
    unfold plainF
    rw [if_neg (h x rfl)]
theorem rdo_nn {a b : Int} (ha : 0 ≤ a) (hb : 1 ≤ b) : ∀ (l : List Int) (x n : Int), 0 ≤ x → figs a l = true → rdo a b x l = some n → 0 ≤ n
  | [], x, n, hx, _, h => by rw [← Option.some.inj h]; exact hx
  | f :: l, x, n, hx, hf, h => by
    unfold rdo at h
    split at h
    · have := figs_mem hf (x := f) (by simp)
      have h2 : 0 ≤ a * x := Int.mul_nonneg ha hx
      exact rdo_nn ha hb l _ n (Int.ediv_nonneg (by omega) (by omega)) (figs_of fun y hy => figs_mem hf (by simp [hy])) h
    · cases h
/-- a row without noughts ahead is its number's row -/
theorem row_of_plain {a b : Int} (g : GB a b) : ∀ (l : List Int) (n : Int), figs a l = true → (∀ x, l.head? = some x → x ≠ 0) → rdo a b 0 l = some n → l = row a b n := by
  have gg := g.ok
  refine snoc_ind (fun n _ _ h => ?_) fun l f ih n hf hh h => ?_
  · have : n = 0 := (Option.some.inj h).symm
    rw [this, row_nil (Int.le_refl 0)]
  · have hf1 : figs a l = true := figs_of fun y hy => figs_mem hf (by simp [hy])
    have hx := figs_mem hf (x := f) (by simp)
    have n0 := rdo_nn (by omega) (by omega) _ _ _ (Int.le_refl 0) hf h
    obtain ⟨M, h1, h2⟩ := rdo_snoc (by omega) h
    have M0 := rdo_nn (by omega) (by omega) _ _ _ (Int.le_refl 0) hf1 h1
    have hl := ih M hf1 (fun x hx => hh x (by cases l with | nil => cases hx | cons => exact hx)) h1
    have np : 0 < n := by
      rcases Int.lt_or_le 0 n with z | z
      · exact z
      · exfalso
        have e0 : n = 0 := by omega
        rw [e0, Int.mul_zero] at h2
        have h3 : 0 ≤ a * M := Int.mul_nonneg (by omega) M0
        have h4 : a * M = 0 := by omega
        have h5 : M = 0 := by
          rcases Int.mul_eq_zero.mp h4 with z | z
          · omega
          · exact z
        rw [h5, row_nil (Int.le_refl 0)] at hl
        rw [hl] at hh
        exact hh f rfl (by omega)
    have e1 : b * n / a = M := by rw [h2, Int.add_comm, Int.add_mul_ediv_left _ _ (by omega), Int.ediv_eq_zero_of_lt hx.1 hx.2, Int.zero_add]
    have e2 : b * n % a = f := by rw [h2, Int.add_comm, Int.add_mul_emod_self_left, Int.emod_eq_of_lt hx.1 hx.2]
    rw [row_step g.b1 g.ba np, e1, e2, ← hl]
theorem plain_row {a b : Int} (g : GB a b) {l : List Int} {n : Int} (hf : figs a l = true) (h : rdo a b 0 l = some n) : plainF l = row a b n :=
  row_of_plain g _ n (plainF_figs hf) (fun _ => plainF_head) (by rw [plainF_rdo]; exact h)
/-- sums, the last place first, that come to a number -/
inductive Rep (a b : Int) : List Int → Int → Prop
  | nil : Rep a b [] 0
  | cons {s N M : Int} {r : List Int} : b * N = a * M + s → 0 ≤ s → 0 < N → Rep a b r M → Rep a b (s :: r) N
theorem Rep.nn {a b : Int} {l : List Int} {N : Int} (h : Rep a b l N) : 0 ≤ N := by
  cases h with
  | nil => exact Int.le_refl 0
  | cons _ _ h _ => omega
theorem Rep.row {a b : Int} (g : GB a b) : ∀ n, 0 ≤ n → Rep a b (row a b n).reverse n := by
  have gg := g.ok
  refine row_ind g.b1 g.ba (by rw [row_nil (Int.le_refl 0)]; exact .nil) fun n h ih => ?_
  rw [row_step g.b1 g.ba h, List.reverse_append]
  have e := Int.mul_ediv_add_emod (b * n) a
  exact .cons (M := b * n / a) (by omega) (Int.emod_nonneg _ (by omega)) h ih
def addZ : List Int → List Int → List Int
  | x :: xs, y :: ys => (x + y) :: addZ xs ys
  | [], ys => ys
  | xs, [] => xs
theorem addZ_nil : ∀ xs, addZ xs [] = xs
  | [] => rfl
  | _ :: _ => rfl
theorem addZ_comm : ∀ xs ys, addZ xs ys = addZ ys xs
  | [], [] => rfl
  | [], _ :: _ => rfl
  | _ :: _, [] => rfl
  | x :: xs, y :: ys => by
    show (x + y) :: addZ xs ys = (y + x) :: addZ ys xs
    rw [addZ_comm xs ys, Int.add_comm]
theorem addZ_len : ∀ xs ys, (addZ xs ys).length = max xs.length ys.length
  | [], [] => rfl
  | [], _ :: _ => by simp [addZ]
  | _ :: _, [] => by simp [addZ]
  | x :: xs, y :: ys => by
    show (addZ xs ys).length + 1 = max (xs.length + 1) (ys.length + 1)
    rw [addZ_len xs ys]
    omega
theorem addZ_mem {B C : Int} (hB : 0 ≤ B) (hC : 0 ≤ C) : ∀ (xs ys : List Int), (∀ x ∈ xs, 0 ≤ x ∧ x ≤ B) → (∀ x ∈ ys, 0 ≤ x ∧ x ≤ C) → ∀ z ∈ addZ xs ys, 0 ≤ z ∧ z ≤ B + C
  | [], ys, _, h, z, hz => by
    have hz : z ∈ ys := by
      cases ys with
      | nil => exact hz
      | cons => exact hz
    have := h z hz
    omega
  | x :: xs, [], h, _, z, hz => by
    have := h z hz
    omega
  | x :: xs, y :: ys, h, k, z, hz => by
    have hz : z ∈ (x + y) :: addZ xs ys := hz
    rcases List.mem_cons.mp hz with e | e
    · have h1 := h x (by simp)
      have h2 := k y (by simp)
      omega
    · exact addZ_mem hB hC xs ys (fun w hw => h w (by simp [hw])) (fun w hw => k w (by simp [hw])) z e
theorem Rep.add {a b : Int} : ∀ {l : List Int} {N : Int}, Rep a b l N → ∀ {m : List Int} {M : Int}, Rep a b m M → Rep a b (addZ l m) (N + M) := by
  intro l N h
  induction h with
  | nil =>
    intro m M k
    rw [Int.zero_add]
    cases m <;> exact k
  | cons e s0 n0 r ih =>
    intro m M k
    cases k with
    | nil =>
      rw [Int.add_zero]
      exact .cons e s0 n0 r
    | cons e' s0' n0' r' =>
      refine .cons ?_ (by omega) (by omega) (ih r')
      rw [Int.mul_add, Int.mul_add]
      omega
theorem Rep.times {a b f : Int} (hf : 0 < f) {l : List Int} {N : Int} (h : Rep a b l N) : Rep a b (l.map fun x => f * x) (f * N) := by
  induction h with
  | nil =>
    rw [Int.mul_zero]
    exact .nil
  | cons e s0 n0 r ih =>
    refine .cons ?_ (Int.mul_nonneg (by omega) s0) (Int.mul_pos hf n0) ih
    rw [Int.mul_left_comm, e, Int.mul_add, Int.mul_left_comm]
/-- further carries, once the places are through -/
def fur (a b k : Int) : List Int := ((ways a b k).reverse.tail).map fun u => b * u
theorem ways_rev {a b k : Int} (hb : 1 ≤ b) (ha : b < a) (h : 0 ≤ k) : (ways a b k).reverse = k :: (ways a b k).reverse.tail := by
  rcases Int.lt_or_le 0 k with z | z
  · rw [ways_step hb ha z, List.reverse_append]
    rfl
  · have : k = 0 := by omega
    subst this
    rfl
theorem fur_zero {a b : Int} : fur a b 0 = [] := rfl
theorem fur_step {a b k : Int} (hb : 1 ≤ b) (ha : b < a) (h : 0 < k) : fur a b k = b * (b * k / a) :: fur a b (b * k / a) := by
  unfold fur
  rw [ways_step hb ha h, List.reverse_append]
  show (ways a b (b * k / a)).reverse.map _ = _
  rw [ways_rev hb ha (div_nn hb ha (show 0 ≤ k by omega))]
  rfl
/-- figures, the last place first, and the carries behind the one that is b times k -/
def carr (a b : Int) : List Int → Int → List Int × List Int
  | [], k => ((row a b k).reverse, fur a b k)
  | s :: r, k => ((s + b * k) % a :: (carr a b r ((s + b * k) / a)).1, b * ((s + b * k) / a) :: (carr a b r ((s + b * k) / a)).2)
theorem carr_nil {a b : Int} : carr a b [] 0 = ([], []) := by
  show ((row a b 0).reverse, fur a b 0) = _
  rw [row_nil (Int.le_refl 0)]
  rfl
theorem carr_nil_step {a b k : Int} (hb : 1 ≤ b) (ha : b < a) (h : 0 < k) : carr a b [] k = (b * k % a :: (carr a b [] (b * k / a)).1, b * (b * k / a) :: (carr a b [] (b * k / a)).2) := by
  show ((row a b k).reverse, fur a b k) = (_ :: (row a b _).reverse, _ :: fur a b _)
  rw [row_step hb ha h, fur_step hb ha h, List.reverse_append]
  rfl
theorem carr_len {a b : Int} (hb : 1 ≤ b) (ha : b < a) : ∀ (l : List Int) (k : Int), 0 ≤ k → (∀ x ∈ l, 0 ≤ x) → (carr a b l k).2.length = (carr a b l k).1.length
  | [], k, hk, _ => by
    show (fur a b k).length = (row a b k).reverse.length
    unfold fur
    rw [List.length_map, List.length_tail, List.length_reverse, List.length_reverse, ways_len hb ha k hk]
    rfl
  | s :: r, k, hk, h => by
    have h1 := h s (by simp)
    have h2 : 0 ≤ b * k := Int.mul_nonneg (by omega) hk
    show (carr a b r _).2.length + 1 = (carr a b r _).1.length + 1
    rw [carr_len hb ha r _ (Int.ediv_nonneg (by omega) (by omega)) fun x hx => h x (by simp [hx])]
theorem carr_row {a b : Int} (g : GB a b) : ∀ (l : List Int) (N k : Int), Rep a b l N → 0 ≤ k → (carr a b l k).1.reverse = row a b (N + k)
  | [], N, k, h, hk => by
    cases h
    show (row a b k).reverse.reverse = _
    rw [List.reverse_reverse, Int.zero_add]
  | s :: r, N, k, h, hk => by
    have gg := g.ok
    cases h with
    | cons e s0 n0 h =>
      rename_i M
      have hbk : 0 ≤ b * k := Int.mul_nonneg (by omega) hk
      have d0 : 0 ≤ (s + b * k) / a := Int.ediv_nonneg (by omega) (by omega)
      have d := Int.mul_ediv_add_emod (s + b * k) a
      have d1 := Int.emod_nonneg (s + b * k) (show a ≠ 0 by omega)
      have d2 := Int.emod_lt_of_pos (s + b * k) (show 0 < a by omega)
      have ih := carr_row g r M ((s + b * k) / a) h d0
      show ((s + b * k) % a :: (carr a b r ((s + b * k) / a)).1).reverse = _
      rw [List.reverse_cons, ih]
      have e3 : b * (N + k) = (s + b * k) % a + a * (M + (s + b * k) / a) := by
        rw [Int.mul_add, Int.mul_add]
        omega
      have e1 : b * (N + k) / a = M + (s + b * k) / a := by rw [e3, Int.add_mul_ediv_left _ _ (by omega), Int.ediv_eq_zero_of_lt d1 d2, Int.zero_add]
      have e2 : b * (N + k) % a = (s + b * k) % a := by rw [e3, Int.add_mul_emod_self_left, Int.emod_eq_of_lt d1 d2]
      rw [row_step g.b1 g.ba (show 0 < N + k by omega), e1, e2]
/-- carries stay small -/
theorem car_step {a b S s k : Int} (hb : 1 ≤ b) (ha : b < a) (s0 : 0 ≤ s) (s1 : s ≤ S) (k0 : 0 ≤ k) (k1 : k ≤ S) : 0 ≤ (s + b * k) / a ∧ (s + b * k) / a ≤ S := by
  have hbk : 0 ≤ b * k := Int.mul_nonneg (by omega) k0
  refine ⟨Int.ediv_nonneg (by omega) (by omega), ?_⟩
  have h1 : b * k ≤ b * S := Int.mul_le_mul_of_nonneg_left k1 (by omega)
  have h2 : (b + 1) * S ≤ a * S := Int.mul_le_mul_of_nonneg_right (by omega) (by omega)
  rw [Int.add_mul, Int.one_mul] at h2
  have h3 : (s + b * k) / a < S + 1 := by
    apply Int.ediv_lt_of_lt_mul (by omega)
    rw [Int.add_mul, Int.one_mul, Int.mul_comm S a]
    omega
  omega
theorem row_len_small {a b n : Int} (g : GB a b) (h0 : 0 ≤ n) (h1 : n ≤ 10 ^ 6) : (row a b n).length ≤ 1000 := by
  have gg := g.ok
  refine row_len_ratio g.b1 g.ba (p := 59) (q := 60) (by decide) (by decide) (by omega) 1000 n h0 ?_
  have e : (10 : Int) ^ 6 * 59 ^ 1000 < 60 ^ 1000 := by decide +kernel
  have : n * 59 ^ 1000 ≤ 10 ^ 6 * 59 ^ 1000 := Int.mul_le_mul_of_nonneg_right h1 (by decide +kernel)
  omega
theorem carr_len_le {a b S : Int} (g : GB a b) (hS : S ≤ 10 ^ 6) : ∀ (l : List Int) (k : Int), 0 ≤ k → k ≤ S → (∀ x ∈ l, 0 ≤ x ∧ x ≤ S) → (carr a b l k).1.length ≤ l.length + 1000
  | [], k, k0, k1, _ => by
    show (row a b k).reverse.length ≤ _
    rw [List.length_reverse]
    have := row_len_small g k0 (by omega)
    omega
  | s :: r, k, k0, k1, h => by
    have h1 := h s (by simp)
    have hs := car_step g.b1 g.ba h1.1 h1.2 k0 k1
    show (carr a b r _).1.length + 1 ≤ r.length + 1 + 1000
    have := carr_len_le g hS r _ hs.1 hs.2 fun x hx => h x (by simp [hx])
    omega
theorem carr_fig {a b : Int} (g : GB a b) : ∀ (l : List Int) (k : Int), 0 ≤ k → (∀ x ∈ l, 0 ≤ x) → ∀ x ∈ (carr a b l k).1, 0 ≤ x ∧ x < a
  | [], k, k0, _, x, hx => row_fig g.b1 g.ba k k0 x (List.mem_reverse.mp hx)
  | s :: r, k, k0, h, x, hx => by
    have gg := g.ok
    have h1 := h s (by simp)
    have hbk : 0 ≤ b * k := Int.mul_nonneg (by omega) k0
    rcases List.mem_cons.mp hx with e | e
    · rw [e]
      exact ⟨Int.emod_nonneg _ (by omega), Int.emod_lt_of_pos _ (by omega)⟩
    · exact carr_fig g r _ (Int.ediv_nonneg (by omega) (by omega)) (fun y hy => h y (by simp [hy])) x e
/-- both together, as they are told -/
def addC (a b n m : Int) : List Int := 0 :: (carr a b (addZ (row a b n).reverse (row a b m).reverse) 0).2
def sumT (a b f n : Int) : List Int := if 0 < f then (row a b n).reverse.map fun x => f * x else []
def mulC (a b f n : Int) : List Int := 0 :: (carr a b (sumT a b f n) 0).2
theorem sumT_rep {a b f n : Int} (g : GB a b) (hf : 0 ≤ f) (hn : 0 ≤ n) : Rep a b (sumT a b f n) (f * n) := by
  unfold sumT
  by_cases h : 0 < f
  · rw [if_pos h]
    exact (Rep.row g n hn).times h
  · rw [if_neg h, show f = 0 by omega, Int.zero_mul]
    exact .nil
theorem add_rep {a b n m : Int} (g : GB a b) (hn : 0 ≤ n) (hm : 0 ≤ m) : Rep a b (addZ (row a b n).reverse (row a b m).reverse) (n + m) := (Rep.row g n hn).add (Rep.row g m hm)
theorem add_row {a b n m : Int} (g : GB a b) (hn : 0 ≤ n) (hm : 0 ≤ m) : (carr a b (addZ (row a b n).reverse (row a b m).reverse) 0).1.reverse = row a b (n + m) := by
  rw [carr_row g _ _ 0 (add_rep g hn hm) (Int.le_refl 0), Int.add_zero]
theorem mul_row {a b f n : Int} (g : GB a b) (hf : 0 ≤ f) (hn : 0 ≤ n) : (carr a b (sumT a b f n) 0).1.reverse = row a b (f * n) := by
  rw [carr_row g _ _ 0 (sumT_rep g hf hn) (Int.le_refl 0), Int.add_zero]
theorem addZ_zip : ∀ (m : Nat) (xs ys : List Int), xs.length ≤ m → ys.length ≤ m → max xs.length ys.length = m → List.zipWith (fun x y => x + y) (xs ++ List.replicate (m - xs.length) 0) (ys ++ List.replicate (m - ys.length) 0) = addZ xs ys
  | 0, xs, ys, h1, h2, _ => by
    have e1 : xs = [] := List.length_eq_zero_iff.mp (by omega)
    have e2 : ys = [] := List.length_eq_zero_iff.mp (by omega)
    subst e1 e2
    rfl
  | m + 1, [], [], _, _, h => by simp at h
  | m + 1, x :: xs, [], h1, _, h3 => by
    have e : xs.length = m := by simp at h3; omega
    show List.zipWith _ (x :: xs ++ List.replicate (m + 1 - (xs.length + 1)) 0) ([] ++ List.replicate (m + 1 - 0) 0) = x :: xs
    rw [e, Nat.sub_self, List.replicate_zero, List.append_nil, List.nil_append, Nat.sub_zero, ← e]
    show List.zipWith _ (x :: xs) (List.replicate (x :: xs).length 0) = _
    generalize x :: xs = l
    induction l with
    | nil => rfl
    | cons u r ih => rw [List.length_cons, List.replicate_succ, List.zipWith_cons_cons, ih, Int.add_zero]
  | m + 1, [], y :: ys, h1, _, h3 => by
    have e : ys.length = m := by simp at h3; omega
    show List.zipWith _ ([] ++ List.replicate (m + 1 - 0) 0) (y :: ys ++ List.replicate (m + 1 - (ys.length + 1)) 0) = y :: ys
    rw [e, Nat.sub_self, List.replicate_zero, List.append_nil, List.nil_append, Nat.sub_zero, ← e]
    show List.zipWith _ (List.replicate (y :: ys).length 0) (y :: ys) = _
    generalize y :: ys = l
    induction l with
    | nil => rfl
    | cons u r ih => rw [List.length_cons, List.replicate_succ, List.zipWith_cons_cons, ih, Int.zero_add]
  | m + 1, x :: xs, y :: ys, h1, h2, h3 => by
    simp only [List.length_cons] at h1 h2 h3
    show List.zipWith _ (x :: xs ++ List.replicate (m + 1 - (xs.length + 1)) 0) (y :: ys ++ List.replicate (m + 1 - (ys.length + 1)) 0) = (x + y) :: addZ xs ys
    rw [Nat.add_sub_add_right, Nat.add_sub_add_right, List.cons_append, List.cons_append, List.zipWith_cons_cons, addZ_zip m xs ys (by omega) (by omega) (by omega)]
theorem rdo_le {a b : Int} (ha : 0 ≤ a) (h6 : a ≤ 60) (hb : 1 ≤ b) : ∀ (l : List Int) (x n : Int), 0 ≤ x → figs a l = true → rdo a b x l = some n → n + 1 ≤ (x + 1) * 64 ^ l.length
  | [], x, n, hx, _, h => by
    rw [← Option.some.inj h]
    show x + 1 ≤ (x + 1) * 64 ^ 0
    rw [Int.pow_zero]
    omega
  | f :: l, x, n, hx, hf, h => by
    unfold rdo at h
    split at h
    · have hf1 := figs_mem hf (x := f) (by simp)
      have h2 : 0 ≤ a * x := Int.mul_nonneg ha hx
      have h3 : a * x ≤ 60 * x := Int.mul_le_mul_of_nonneg_right h6 hx
      have h4 := Int.ediv_le_self (a := a * x + f) b (by omega)
      have ih := rdo_le ha h6 hb l _ n (Int.ediv_nonneg (by omega) (by omega)) (figs_of fun y hy => figs_mem hf (by simp [hy])) h
      have p : (0 : Int) ≤ 64 ^ l.length := Int.le_of_lt (Int.pow_pos (by decide))
      have h5 : ((a * x + f) / b + 1) * 64 ^ l.length ≤ (x + 1) * 64 * 64 ^ l.length := Int.mul_le_mul_of_nonneg_right (by omega) p
      rw [List.length_cons, Int.pow_succ, Int.mul_comm (64 ^ l.length) 64, ← Int.mul_assoc]
      omega
    · cases h
theorem rdo_bd {a b : Int} (g : GB a b) {l : List Int} {n : Int} (hf : figs a l = true) (hl : l.length ≤ 3000) (h : rdo a b 0 l = some n) : 0 ≤ n ∧ n < 2 ^ 18001 := by
  have gg := g.ok
  have h1 := rdo_le (by omega) gg.2.1 gg.2.2.1 l 0 n (Int.le_refl 0) hf h
  have e : ((64 ^ l.length : Nat) : Int) = 64 ^ l.length := by rw [Int.natCast_pow]; rfl
  have h2 := Nat.pow_le_pow_right (n := 64) (by decide) hl
  have h3 : (64 : Nat) ^ 3000 < 2 ^ 18001 := by decide +kernel
  have e2 : (((2 : Nat) ^ 18001 : Nat) : Int) = 2 ^ 18001 := by rw [Int.natCast_pow]; rfl
  have h0 := rdo_nn (by omega) (by omega) _ _ _ (Int.le_refl 0) hf h
  refine ⟨h0, ?_⟩
  rw [← e2]
  rw [← e] at h1
  omega
theorem sumT_mem {a b f n : Int} (ha : a ≤ 60) (hf : 0 ≤ f) (h1 : f ≤ 1000) (hz : ∀ x ∈ row a b n, 0 ≤ x ∧ x < a) : ∀ x ∈ sumT a b f n, 0 ≤ x ∧ x ≤ 60000 := fun x hx => by
  unfold sumT at hx
  split at hx
  · obtain ⟨u, h2, h3⟩ := List.mem_map.mp hx
    have h4 := hz u (List.mem_reverse.mp h2)
    have h5 : 0 ≤ f * u := Int.mul_nonneg hf h4.1
    have h6 : f * u ≤ 1000 * u := Int.mul_le_mul_of_nonneg_right h1 h4.1
    omega
  · cases hx
theorem sumT_len {a b f n : Int} : (sumT a b f n).length ≤ (row a b n).length := by
  unfold sumT
  split
  · rw [List.length_map, List.length_reverse]
    exact Nat.le_refl _
  · exact Nat.zero_le _
theorem mul_len {a b f n : Int} (g : GB a b) (hf : 0 ≤ f) (h1 : f ≤ 1000) (hn : 0 ≤ n) : (row a b (f * n)).length ≤ (row a b n).length + 1000 ∧ (mulC a b f n).length ≤ (row a b n).length + 1001 := by
  have zs := sumT_mem (b := b) g.ok.2.1 hf h1 (row_fig g.b1 g.ba n hn)
  have l := carr_len_le g (S := 10 ^ 6) (Int.le_refl _) (sumT a b f n) 0 (Int.le_refl 0) (by decide) (fun x hx => by have := zs x hx; omega)
  have l2 := carr_len g.b1 g.ba (sumT a b f n) 0 (Int.le_refl 0) (fun x hx => (zs x hx).1)
  have ls := sumT_len (a := a) (b := b) (f := f) (n := n)
  rw [← mul_row g hf hn, List.length_reverse]
  unfold mulC
  rw [List.length_cons]
  omega
theorem add_len {a b n m : Int} (g : GB a b) (hn : 0 ≤ n) (hm : 0 ≤ m) : (row a b (n + m)).length ≤ max (row a b n).length (row a b m).length + 1000 ∧ (addC a b n m).length ≤ max (row a b n).length (row a b m).length + 1001 := by
  have gg := g.ok
  have z1 := row_fig g.b1 g.ba n hn
  have z2 := row_fig g.b1 g.ba m hm
  have hz := addZ_mem (B := 60) (C := 60) (by decide) (by decide) (row a b n).reverse (row a b m).reverse (fun x hx => by have := z1 x (List.mem_reverse.mp hx); omega) (fun x hx => by have := z2 x (List.mem_reverse.mp hx); omega)
  have l := carr_len_le g (S := 10 ^ 6) (Int.le_refl _) (addZ (row a b n).reverse (row a b m).reverse) 0 (Int.le_refl 0) (by decide) (fun x hx => by have := hz x hx; omega)
  have l2 := carr_len g.b1 g.ba (addZ (row a b n).reverse (row a b m).reverse) 0 (Int.le_refl 0) (fun x hx => (hz x hx).1)
  have ls := addZ_len (row a b n).reverse (row a b m).reverse
  rw [List.length_reverse, List.length_reverse] at ls
  rw [← add_row g hn hm, List.length_reverse]
  unfold addC
  rw [List.length_cons]
  omega
theorem rdo_one {a : Int} : ∀ (l : List Int) (x : Int), ∃ n, rdo a 1 x l = some n
  | [], x => ⟨x, rfl⟩
  | f :: l, x => by
    obtain ⟨n, h⟩ := rdo_one l ((a * x + f) / 1)
    refine ⟨n, ?_⟩
    show (if (a * x + f) % 1 = 0 then _ else _) = _
    rw [if_pos (Int.emod_one _)]
    exact h
theorem GB.side {a b : Int} (g : GB a b) : GB a 1 := by
  have := g.ok
  exact ⟨g.a2, g.a60, by decide, by omega, Int.gcd_one_right a⟩
/-- a figure more that keeps a row whole -/
theorem more_fig {a b n : Int} {l : List Int} (g : GB a b) (h : rdo a b 0 l = some n) : 0 ≤ -a * n % b ∧ -a * n % b < a ∧ ∃ m, rdo a b 0 (l ++ [-a * n % b]) = some m := by
  have gg := g.ok
  have h0 := Int.emod_nonneg (-a * n) (show b ≠ 0 by omega)
  have h1 := Int.emod_lt_of_pos (-a * n) (show 0 < b by omega)
  have h2 := Int.mul_ediv_add_emod (-a * n) b
  have e := Int.neg_mul a n
  refine ⟨h0, by omega, -(-a * n / b), rdo_of_snoc (by omega) h ?_⟩
  rw [Int.mul_neg]
  omega
theorem rdo_take {a b n : Int} {l : List Int} (h : rdo a b 0 l = some n) (i : Nat) : ∃ m, rdo a b 0 (l.take i) = some m := by
  rw [← List.take_append_drop i l, rdo_append] at h
  cases e : rdo a b 0 (l.take i) with
  | none => rw [e] at h; cases h
  | some m => exact ⟨m, rfl⟩
theorem figs_take {a : Int} {l : List Int} (h : figs a l = true) (i : Nat) : figs a (l.take i) = true := figs_of fun _ hx => figs_mem h (List.mem_of_mem_take hx)
theorem figs_zero {a : Int} {l : List Int} (ha : 0 < a) (h : figs a l = true) : figs a (0 :: l) = true := figs_of fun x hx => by
  rcases List.mem_cons.mp hx with e | e
  · omega
  · exact figs_mem h e
theorem rdo_zero {a b : Int} (l : List Int) : rdo a b 0 (0 :: l) = rdo a b 0 l := by
  show (if (a * 0 + 0) % b = 0 then rdo a b ((a * 0 + 0) / b) l else none) = _
  simp
/-! ### whether sums come to a row by carries -/
theorem row_head {a b : Int} (g : GB a b) : ∀ n, 0 ≤ n → ∀ x, (row a b n).head? = some x → x ≠ 0 := by
  have gg := g.ok
  refine row_ind g.b1 g.ba (fun x hx => by rw [row_nil (Int.le_refl 0)] at hx; cases hx) fun n h ih x hx => ?_
  rw [row_step g.b1 g.ba h] at hx
  cases e : row a b (b * n / a) with
  | nil =>
    rw [e] at hx
    have hx : b * n % a = x := Option.some.inj hx
    have z : b * n / a = 0 := by
      rcases Int.lt_or_le 0 (b * n / a) with w | w
      · rw [row_step g.b1 g.ba w] at e
        simp at e
      · have := div_nn g.b1 g.ba (show 0 ≤ n by omega)
        omega
    have d := Int.mul_ediv_add_emod (b * n) a
    rw [z, Int.mul_zero, Int.zero_add] at d
    have p : 0 < b * n := Int.mul_pos (by omega) h
    omega
  | cons u r =>
    rw [e] at hx ih
    exact ih x hx
def chk (a b : Int) : List Int → List Int → List Int → Bool
  | sums, f :: fs, c :: d :: cs => decide ((sums.headD 0 + c) % a = f) && (decide (d = b * ((sums.headD 0 + c) / a)) && chk a b sums.tail fs (d :: cs))
  | _, _, _ => true
theorem chk_nil {a b : Int} {sums cs : List Int} : chk a b sums [] cs = true := by
  unfold chk
  rfl
theorem chk_cons {a b f c d : Int} {sums fs cs : List Int} : chk a b sums (f :: fs) (c :: d :: cs) = (decide ((sums.headD 0 + c) % a = f) && (decide (d = b * ((sums.headD 0 + c) / a)) && chk a b sums.tail fs (d :: cs))) := by
  rw [chk]
/-- told by all that is looked at -/
def Due (a b : Int) (sums fs cs : List Int) (k : Int) : Prop := (∀ x, fs.getLast? = some x → x ≠ 0) ∧ sums.length ≤ fs.length ∧ cs.length = fs.length + 1 ∧ cs.head? = some (b * k) ∧ cs.getLast? = some 0 ∧ chk a b sums fs cs = true
theorem carr_headD {a b k : Int} (g : GB a b) (sums : List Int) (h : sums ≠ [] ∨ 0 < k) : carr a b sums k = ((sums.headD 0 + b * k) % a :: (carr a b sums.tail ((sums.headD 0 + b * k) / a)).1, b * ((sums.headD 0 + b * k) / a) :: (carr a b sums.tail ((sums.headD 0 + b * k) / a)).2) := by
  cases sums with
  | nil =>
    have h : 0 < k := h.elim (fun e => absurd rfl e) id
    rw [carr_nil_step g.b1 g.ba h]
    show _ = ((0 + b * k) % a :: (carr a b [] ((0 + b * k) / a)).1, b * ((0 + b * k) / a) :: (carr a b [] ((0 + b * k) / a)).2)
    rw [Int.zero_add]
  | cons s r => rfl
theorem due_of {a b : Int} (g : GB a b) : ∀ (fs sums cs : List Int) (N k : Int), Rep a b sums N → 0 ≤ k → Due a b sums fs cs k → fs = (carr a b sums k).1 ∧ cs = b * k :: (carr a b sums k).2
  | [], sums, cs, N, k, hr, hk, ⟨h1, h2, h3, h4, h5, h6⟩ => by
    have es : sums = [] := List.length_eq_zero_iff.mp (by simpa using h2)
    subst es
    match cs, h3, h4, h5 with
    | [c], _, h4, h5 =>
      have e1 : c = b * k := Option.some.inj h4
      have e2 : c = 0 := Option.some.inj h5
      have e3 : k = 0 := by
        rcases Int.mul_eq_zero.mp (show b * k = 0 by omega) with z | z
        · have := g.b1; omega
        · exact z
      subst e3
      rw [carr_nil, e1]
      exact ⟨rfl, rfl⟩
  | f :: fs, sums, cs, N, k, hr, hk, ⟨h1, h2, h3, h4, h5, h6⟩ => by
    have gg := g.ok
    match cs, h3, h4, h5, h6 with
    | c :: d :: cs, h3, h4, h5, h6 =>
      have e1 : c = b * k := Option.some.inj h4
      subst e1
      rw [chk_cons, Bool.and_eq_true, Bool.and_eq_true, decide_eq_true_iff, decide_eq_true_iff] at h6
      obtain ⟨e2, e3, h6⟩ := h6
      have hbk : 0 ≤ b * k := Int.mul_nonneg (by omega) hk
      have hs : 0 ≤ sums.headD 0 ∧ ∃ M, Rep a b sums.tail M := by
        cases hr with
        | nil => exact ⟨Int.le_refl 0, 0, .nil⟩
        | cons _ s0 _ r => exact ⟨s0, _, r⟩
      obtain ⟨s0, M, hr'⟩ := hs
      have k0 : 0 ≤ (sums.headD 0 + b * k) / a := Int.ediv_nonneg (by omega) (by omega)
      have h1' : ∀ x, fs.getLast? = some x → x ≠ 0 := fun x hx => by
        cases fs with
        | nil => cases hx
        | cons u r => exact h1 x (by rw [List.getLast?_cons_cons]; exact hx)
      have ih := due_of g fs sums.tail (d :: cs) M ((sums.headD 0 + b * k) / a) hr' k0
        ⟨h1', by rw [List.length_tail]; simp at h2; omega, by simpa using h3, by rw [← e3]; rfl, by rw [List.getLast?_cons_cons] at h5; exact h5, h6⟩
      have hne : sums ≠ [] ∨ 0 < k := by
        rcases Int.lt_or_le 0 k with z | z
        · exact .inr z
        · left
          intro es
          have ek : k = 0 := by omega
          subst ek
          subst es
          have ef : fs = [] := by
            have := ih.1
            rw [show (([] : List Int).headD 0 + b * 0) / a = 0 by simp] at this
            exact this.trans (by rw [List.tail_nil, carr_nil])
          subst ef
          refine h1 f rfl ?_
          rw [← e2]
          simp
      rw [carr_headD g sums hne]
      refine ⟨by rw [← e2, ← ih.1], ?_⟩
      have := ih.2
      rw [← this]
theorem carr_last {a b : Int} (g : GB a b) : ∀ (sums : List Int) (k : Int), 0 ≤ k → (∀ x ∈ sums, 0 ≤ x) → (b * k :: (carr a b sums k).2).getLast? = some 0
  | [], k, hk, _ => by
    refine row_ind (P := fun k => (b * k :: (carr a b [] k).2).getLast? = some 0) g.b1 g.ba ?_ (fun n h ih => ?_) k hk
    · rw [carr_nil, Int.mul_zero]
      rfl
    · rw [carr_nil_step g.b1 g.ba h, List.getLast?_cons_cons]
      exact ih
  | s :: r, k, hk, h => by
    have gg := g.ok
    have hbk : 0 ≤ b * k := Int.mul_nonneg (by omega) hk
    have h1 := h s (by simp)
    show (b * k :: b * ((s + b * k) / a) :: (carr a b r ((s + b * k) / a)).2).getLast? = some 0
    rw [List.getLast?_cons_cons]
    exact carr_last g r _ (Int.ediv_nonneg (by omega) (by omega)) fun x hx => h x (by simp [hx])
theorem carr_chk {a b : Int} (g : GB a b) : ∀ (sums : List Int) (k : Int), 0 ≤ k → (∀ x ∈ sums, 0 ≤ x) → chk a b sums (carr a b sums k).1 (b * k :: (carr a b sums k).2) = true
  | [], k, hk, _ => by
    refine row_ind (P := fun k => chk a b [] (carr a b [] k).1 (b * k :: (carr a b [] k).2) = true) g.b1 g.ba ?_ (fun n h ih => ?_) k hk
    · rw [carr_nil]
      exact chk_nil
    · rw [carr_nil_step g.b1 g.ba h, chk_cons]
      show (decide ((0 + b * n) % a = b * n % a) && (decide (b * (b * n / a) = b * ((0 + b * n) / a)) && chk a b [] _ _)) = true
      rw [Int.zero_add, decide_eq_true rfl, decide_eq_true rfl, Bool.true_and, Bool.true_and]
      exact ih
  | s :: r, k, hk, h => by
    have gg := g.ok
    have hbk : 0 ≤ b * k := Int.mul_nonneg (by omega) hk
    have h1 := h s (by simp)
    show chk a b (s :: r) ((s + b * k) % a :: (carr a b r ((s + b * k) / a)).1) (b * k :: b * ((s + b * k) / a) :: (carr a b r ((s + b * k) / a)).2) = true
    rw [chk_cons]
    show (decide ((s + b * k) % a = (s + b * k) % a) && (decide (b * ((s + b * k) / a) = b * ((s + b * k) / a)) && chk a b r _ _)) = true
    rw [decide_eq_true rfl, decide_eq_true rfl, Bool.true_and, Bool.true_and]
    exact carr_chk g r _ (Int.ediv_nonneg (by omega) (by omega)) fun x hx => h x (by simp [hx])
theorem carr_long {a b : Int} : ∀ (sums : List Int) (k : Int), sums.length ≤ (carr a b sums k).1.length
  | [], _ => Nat.zero_le _
  | s :: r, k => by
    show r.length + 1 ≤ (carr a b r ((s + b * k) / a)).1.length + 1
    have := carr_long (a := a) (b := b) r ((s + b * k) / a)
    omega
theorem rep_nn {a b : Int} {l : List Int} {N : Int} (h : Rep a b l N) : ∀ x ∈ l, 0 ≤ x := by
  induction h with
  | nil => intro x hx; cases hx
  | cons _ s0 _ _ ih =>
    intro x hx
    rcases List.mem_cons.mp hx with e | e
    · rw [e]; exact s0
    · exact ih x e
/-- the whole look -/
def CarB (a b : Int) (sums rs cs : List Int) : Prop := figs a rs = true ∧ rs.take 1 ≠ [0] ∧ sums.length ≤ rs.length ∧ cs.length = rs.length + 1 ∧ cs.head? = some 0 ∧ cs.getLast? = some 0 ∧ chk a b sums rs.reverse cs = true
theorem carB_iff {a b N : Int} {sums rs cs : List Int} (g : GB a b) (hr : Rep a b sums N) : CarB a b sums rs cs ↔ rs = (carr a b sums 0).1.reverse ∧ cs = 0 :: (carr a b sums 0).2 := by
  have nn := rep_nn hr
  constructor
  · rintro ⟨h0, h1, h2, h3, h4, h5, h6⟩
    have := due_of g rs.reverse sums cs N 0 hr (Int.le_refl 0) ⟨fun x hx => by
      rw [List.getLast?_reverse] at hx
      intro e
      apply h1
      cases rs with
      | nil => cases hx
      | cons u r =>
        have hx : u = x := Option.some.inj hx
        rw [hx, e]
        rfl, by rw [List.length_reverse]; exact h2, by rw [List.length_reverse]; exact h3, by rw [Int.mul_zero]; exact h4, h5, h6⟩
    rw [Int.mul_zero] at this
    exact ⟨by rw [← this.1, List.reverse_reverse], this.2⟩
  · rintro ⟨rfl, rfl⟩
    have hl := carr_last g sums 0 (Int.le_refl 0) nn
    have hc := carr_chk g sums 0 (Int.le_refl 0) nn
    rw [Int.mul_zero] at hl hc
    have hrow := carr_row g sums N 0 hr (Int.le_refl 0)
    refine ⟨figs_of fun x hx => carr_fig g sums 0 (Int.le_refl 0) nn x (List.mem_reverse.mp hx), ?_, by rw [List.length_reverse]; exact carr_long sums 0, by rw [List.length_cons, List.length_reverse, carr_len g.b1 g.ba sums 0 (Int.le_refl 0) nn], rfl, hl, by rw [List.reverse_reverse]; exact hc⟩
    rw [hrow]
    intro e
    have hh := row_head g (N + 0) (by have := hr.nn; omega)
    cases z : row a b (N + 0) with
    | nil => rw [z] at e; cases e
    | cons u r =>
      rw [z] at e hh
      have e : [u] = [0] := e
      injection e with e1
      exact hh u rfl e1
theorem mulC_end {a b f n : Int} (g : GB a b) (hf : 0 ≤ f) (hn : 0 ≤ n) : ∃ r, mulC a b f n = r ++ [0] := by
  have h := carr_last g (sumT a b f n) 0 (Int.le_refl 0) (rep_nn (sumT_rep g hf hn))
  rw [Int.mul_zero] at h
  exact List.getLast?_eq_some_iff.mp h
theorem addC_end {a b n m : Int} (g : GB a b) (hn : 0 ≤ n) (hm : 0 ≤ m) : ∃ r, addC a b n m = r ++ [0] := by
  have h := carr_last g (addZ (row a b n).reverse (row a b m).reverse) 0 (Int.le_refl 0) (rep_nn (add_rep g hn hm))
  rw [Int.mul_zero] at h
  exact List.getLast?_eq_some_iff.mp h
/-! ### bounds of what hangs below -/
theorem lohi_step {a b n : Int} (g : GB a b) : ∀ i : Nat, 1 ≤ n → 1 ≤ loN a b i n ∧ 1 ≤ hiN a b i n ∧ loN a b i n ≤ n * 128 ^ i ∧ hiN a b i n ≤ n * 128 ^ i
  | 0, h => by
    rw [Int.pow_zero]
    exact ⟨h, h, by show n ≤ _; omega, by show n ≤ _; omega⟩
  | i + 1, h => by
    have gg := g.ok
    obtain ⟨h1, h2, h3, h4⟩ := lohi_step g i h
    show 1 ≤ -(-a * loN a b i n / b) ∧ 1 ≤ (a * hiN a b i n + a - 1) / b ∧ -(-a * loN a b i n / b) ≤ _ ∧ (a * hiN a b i n + a - 1) / b ≤ _
    generalize loN a b i n = l at h1 h3 ⊢
    generalize hiN a b i n = u at h2 h4 ⊢
    have m1 : a * 1 ≤ a * l := Int.mul_le_mul_of_nonneg_left h1 (by omega)
    have m2 : a * l ≤ 60 * l := Int.mul_le_mul_of_nonneg_right gg.2.1 (by omega)
    have m3 : a * 1 ≤ a * u := Int.mul_le_mul_of_nonneg_left h2 (by omega)
    have m4 : a * u ≤ 60 * u := Int.mul_le_mul_of_nonneg_right gg.2.1 (by omega)
    have e := Int.neg_mul a l
    have d1 := Int.mul_ediv_add_emod (-a * l) b
    have d2 := Int.emod_nonneg (-a * l) (show b ≠ 0 by omega)
    have d3 := Int.emod_lt_of_pos (-a * l) (show 0 < b by omega)
    generalize -a * l / b = q at d1 ⊢
    have q1 : q ≤ -1 := by
      rcases Int.lt_or_le q 0 with z | z
      · omega
      · have := Int.mul_nonneg (show 0 ≤ b by omega) z
        omega
    have q2 : -q ≤ a * l + b := by
      have : b * q ≤ 1 * q := Int.mul_le_mul_of_nonpos_right (by omega) (by omega)
      omega
    refine ⟨by omega, ?_, ?_, ?_⟩
    · exact Int.le_ediv_of_mul_le (by omega) (by omega)
    · rw [Int.pow_succ, ← Int.mul_assoc]
      omega
    · have := Int.ediv_le_self (a := a * u + a - 1) b (by omega)
      rw [Int.pow_succ, ← Int.mul_assoc]
      omega
theorem lohi_bd {a b n : Int} (g : GB a b) (i : Nat) (h : 1 ≤ n) (hn : n < 2 ^ 10000) (hi : i ≤ 300) : Bd (loN a b i n) ∧ Bd (hiN a b i n) := by
  obtain ⟨h1, h2, h3, h4⟩ := lohi_step g i h
  have p : (128 : Int) ^ i ≤ 128 ^ 300 := by
    have := Nat.pow_le_pow_right (n := 128) (by decide) hi
    have e : ∀ k : Nat, ((128 ^ k : Nat) : Int) = 128 ^ k := fun k => by rw [Int.natCast_pow] <;> rfl
    rw [← e, ← e]
    exact Int.ofNat_le.mpr this
  have p0 : (0 : Int) < 128 ^ i := Int.pow_pos (by decide)
  have z1 : n * 128 ^ i ≤ 2 ^ 10000 * 128 ^ 300 := Int.mul_le_mul (by omega) p (by omega) (by decide +kernel)
  have z4 : (2 : Int) ^ 10000 * 128 ^ 300 < 2 ^ 15000 := by decide +kernel
  exact ⟨bd_lt (k := 15000) (by omega), bd_lt (k := 15000) (by omega)⟩
theorem hi0_step {a b : Int} (g : GB a b) : ∀ i : Nat, 0 ≤ hiN a b i 0 ∧ hiN a b i 0 ≤ 128 ^ i - 1
  | 0 => by rw [Int.pow_zero]; exact ⟨Int.le_refl 0, Int.le_refl 0⟩
  | i + 1 => by
    have gg := g.ok
    obtain ⟨h1, h2⟩ := hi0_step g i
    show 0 ≤ (a * hiN a b i 0 + a - 1) / b ∧ (a * hiN a b i 0 + a - 1) / b ≤ _
    generalize hiN a b i 0 = u at h1 h2 ⊢
    have m3 : 0 ≤ a * u := Int.mul_nonneg (by omega) h1
    have m4 : a * u ≤ 60 * u := Int.mul_le_mul_of_nonneg_right gg.2.1 (by omega)
    have p0 : (0 : Int) < 128 ^ i := Int.pow_pos (by decide)
    refine ⟨Int.ediv_nonneg (by omega) (by omega), ?_⟩
    have := Int.ediv_le_self (a := a * u + a - 1) b (by omega)
    rw [Int.pow_succ]
    omega
theorem hi0_bd {a b : Int} (g : GB a b) (i : Nat) (hi : i ≤ 300) : Bd (hiN a b i 0) := by
  obtain ⟨h1, h2⟩ := hi0_step g i
  have p : (128 : Int) ^ i ≤ 128 ^ 300 := by
    have := Nat.pow_le_pow_right (n := 128) (by decide) hi
    have e : ∀ k : Nat, ((128 ^ k : Nat) : Int) = 128 ^ k := fun k => by rw [Int.natCast_pow]; rfl
    rw [← e, ← e]
    exact Int.ofNat_le.mpr this
  have z4 : (128 : Int) ^ 300 < 2 ^ 15000 := by decide +kernel
  exact bd_lt (k := 15000) (by omega)
/-! ### lengths -/
theorem up_div {t b : Int} (hb : 1 ≤ b) : (t + b - 1) / b = -(-t / b) := by
  have d1 := Int.mul_ediv_add_emod (t + b - 1) b
  have d2 := Int.emod_nonneg (t + b - 1) (show b ≠ 0 by omega)
  have d3 := Int.emod_lt_of_pos (t + b - 1) (show 0 < b by omega)
  have e1 := Int.mul_ediv_add_emod (-t) b
  have e2 := Int.emod_nonneg (-t) (show b ≠ 0 by omega)
  have e3 := Int.emod_lt_of_pos (-t) (show 0 < b by omega)
  generalize (t + b - 1) / b = x at *
  generalize -t / b = y at *
  have h : b * (x + y) < b * 1 := by rw [Int.mul_add]; omega
  have h2 : b * (-1) < b * (x + y) := by rw [Int.mul_add]; omega
  have h3 := Int.lt_of_mul_lt_mul_left h (by omega)
  have h4 := Int.lt_of_mul_lt_mul_left h2 (by omega)
  omega
theorem lo_pos {a b : Int} (g : GB a b) (k : Nat) : 1 ≤ loN a b k 1 := (lohi_step g k (Int.le_refl 1)).1
theorem lo_up {a b : Int} (g : GB a b) (k : Nat) : loN a b (k + 1) 1 = (a * loN a b k 1 + b - 1) / b := by
  rw [up_div g.b1]
  show -(-a * loN a b k 1 / b) = _
  rw [Int.neg_mul]
theorem lo_lt {a b : Int} (g : GB a b) (k : Nat) : loN a b k 1 < loN a b (k + 1) 1 := by
  have gg := g.ok
  have p := lo_pos g k
  rw [lo_up g]
  generalize loN a b k 1 = l at p ⊢
  have h : b * l + l ≤ a * l := by
    have := Int.mul_le_mul_of_nonneg_right (show b + 1 ≤ a by omega) (show 0 ≤ l by omega)
    rw [Int.add_mul, Int.one_mul] at this
    exact this
  have : l + 1 ≤ (a * l + b - 1) / b := Int.le_ediv_of_mul_le (by omega) (by rw [Int.add_mul, Int.one_mul, Int.mul_comm l b]; omega)
  omega
theorem hi_lo {a b : Int} (g : GB a b) : ∀ k : Nat, hiN a b k 0 + 1 = loN a b k 1
  | 0 => rfl
  | k + 1 => by
    have gg := g.ok
    have ih := hi_lo g k
    rw [lo_up g]
    show (a * hiN a b k 0 + a - 1) / b + 1 = _
    rw [← ih, Int.mul_add, Int.mul_one, show a * hiN a b k 0 + a + b - 1 = a * hiN a b k 0 + a - 1 + b * 1 by omega, Int.add_mul_ediv_left _ _ (by omega)]
theorem len_iff {a b : Int} (g : GB a b) : ∀ (k : Nat) (n : Int), 1 ≤ n → (loN a b k 1 ≤ n ↔ k + 1 ≤ (row a b n).length)
  | 0, n, h => by
    rw [row_len_step g.b1 g.ba (by omega)]
    show (1 : Int) ≤ n ↔ _
    constructor
    · intro _; omega
    · intro _; exact h
  | k + 1, n, h => by
    have gg := g.ok
    have p := lo_pos g k
    rw [row_len_step g.b1 g.ba (show 0 < n by omega)]
    have key : loN a b (k + 1) 1 ≤ n ↔ loN a b k 1 ≤ b * n / a := by
      rw [lo_up g, Int.le_ediv_iff_mul_le (show 0 < a by omega)]
      generalize loN a b k 1 = l
      constructor
      · intro z
        have h1 := Int.mul_le_mul_of_nonneg_left z (show 0 ≤ b by omega)
        have d1 := Int.mul_ediv_add_emod (a * l + b - 1) b
        have d3 := Int.emod_lt_of_pos (a * l + b - 1) (show 0 < b by omega)
        rw [Int.mul_comm l a]
        omega
      · intro z
        have : (a * l + b - 1) / b < n + 1 := Int.ediv_lt_of_lt_mul (by omega) (by rw [Int.add_mul, Int.one_mul, Int.mul_comm n b, ← Int.mul_comm l a]; omega)
        omega
    rw [key]
    have d0 := div_nn g.b1 g.ba (show 0 ≤ n by omega)
    rcases Int.lt_or_le 0 (b * n / a) with z | z
    · rw [len_iff g k _ (by omega)]
      omega
    · have e : b * n / a = 0 := by omega
      rw [e, row_nil (Int.le_refl 0)]
      constructor
      · intro w; omega
      · intro w; simp at w
theorem len_lo {a b : Int} (g : GB a b) (k : Nat) : (row a b (loN a b k 1)).length = k + 1 := by
  have h1 := (len_iff g k _ (lo_pos g k)).mp (Int.le_refl _)
  have h2 := len_iff g (k + 1) _ (lo_pos g k)
  have h3 := lo_lt g k
  have : ¬ k + 1 + 1 ≤ (row a b (loN a b k 1)).length := fun z => by have := h2.mpr z; omega
  omega
theorem len_below {a b : Int} (g : GB a b) (k : Nat) : (row a b (loN a b (k + 1) 1 - 1)).length = k + 1 := by
  have h3 := lo_lt g k
  have p := lo_pos g k
  have h1 := (len_iff g k (loN a b (k + 1) 1 - 1) (by omega)).mp (by omega)
  have h2 := len_iff g (k + 1) (loN a b (k + 1) 1 - 1) (by omega)
  have : ¬ k + 1 + 1 ≤ (row a b (loN a b (k + 1) 1 - 1)).length := fun z => by have := h2.mpr z; omega
  omega
/-! ### the numbers below one -/
def nxt (a b n : Int) : List Int := rgI (if n = 0 then 1 else -(-a * n / b)) ((a * n + a - 1) / b + 1)
theorem lo_iff {a b n z : Int} (hb : 1 ≤ b) : -(-a * n / b) ≤ z ↔ a * n ≤ b * z := by
  have e := Int.neg_mul a n
  have d1 := Int.mul_ediv_add_emod (-a * n) b
  have d2 := Int.emod_nonneg (-a * n) (show b ≠ 0 by omega)
  have d3 := Int.emod_lt_of_pos (-a * n) (show 0 < b by omega)
  generalize -a * n / b = q at *
  constructor
  · intro h
    have := Int.mul_le_mul_of_nonneg_left (show -z ≤ q by omega) (show 0 ≤ b by omega)
    rw [Int.mul_neg] at this
    omega
  · intro h
    rcases Int.lt_or_le (-z) (q + 1) with w | w
    · omega
    · exfalso
      have := Int.mul_le_mul_of_nonneg_left w (show 0 ≤ b by omega)
      rw [Int.mul_neg, Int.mul_add, Int.mul_one] at this
      omega
theorem hi_iff {a b n z : Int} (hb : 1 ≤ b) : z < (a * n + a - 1) / b + 1 ↔ b * z < a * n + a := by
  rw [show (z < (a * n + a - 1) / b + 1) ↔ z ≤ (a * n + a - 1) / b by omega, Int.le_ediv_iff_mul_le (show 0 < b by omega), Int.mul_comm z b]
  omega
theorem nxt_mem {a b n z : Int} (g : GB a b) (h0 : 0 ≤ n) : z ∈ nxt a b n ↔ 1 ≤ z ∧ a * n ≤ b * z ∧ b * z < a * n + a := by
  have gg := g.ok
  unfold nxt
  rw [rgI_mem, hi_iff g.b1]
  by_cases h : n = 0
  · subst h
    rw [if_pos rfl]
    constructor
    · rintro ⟨h1, h2⟩
      refine ⟨h1, ?_, h2⟩
      rw [Int.mul_zero]
      exact Int.mul_nonneg (by omega) (by omega)
    · rintro ⟨h1, h2, h3⟩
      exact ⟨h1, h3⟩
  · rw [if_neg h, lo_iff g.b1]
    constructor
    · rintro ⟨h1, h2⟩
      refine ⟨?_, h1, h2⟩
      have p : 0 < a * n := Int.mul_pos (by omega) (by omega)
      rcases Int.lt_or_le 0 z with w | w
      · omega
      · have := Int.mul_le_mul_of_nonneg_left w (show 0 ≤ b by omega)
        rw [Int.mul_zero] at this
        omega
    · rintro ⟨h1, h2, h3⟩
      exact ⟨h2, h3⟩
theorem nxt_up {a b n z : Int} (g : GB a b) (h0 : 0 ≤ n) (h : z ∈ nxt a b n) : 1 ≤ z ∧ b * z / a = n := by
  have gg := g.ok
  obtain ⟨h1, h2, h3⟩ := (nxt_mem g h0).mp h
  refine ⟨h1, ?_⟩
  have e : b * z = (b * z - a * n) + a * n := by omega
  rw [e, Int.add_mul_ediv_left _ _ (by omega), Int.ediv_eq_zero_of_lt (by omega) (by omega), Int.zero_add]
theorem nxt_le {a b n z : Int} (g : GB a b) (h0 : 0 ≤ n) (h : z ∈ nxt a b n) : z ≤ 60 * n + 60 := by
  have gg := g.ok
  obtain ⟨h1, h2, h3⟩ := (nxt_mem g h0).mp h
  have m1 : 1 * z ≤ b * z := Int.mul_le_mul_of_nonneg_right (by omega) (by omega)
  have m2 : a * n ≤ 60 * n := Int.mul_le_mul_of_nonneg_right gg.2.1 h0
  omega
theorem nxt_asc (a b n : Int) : (nxt a b n).Pairwise (· < ·) := rgI_asc _ _
theorem nxt_len {a b n : Int} (g : GB a b) (h0 : 0 ≤ n) : (nxt a b n).length ≤ 60 := by
  have gg := g.ok
  unfold nxt
  rw [rgI_len]
  have key : ∀ l : Int, a * n ≤ b * l → ((a * n + a - 1) / b + 1 - l).toNat ≤ 60 := by
    intro l hl
    have h1 := Int.mul_ediv_self_le (x := a * n + a - 1) (k := b) (by omega)
    generalize (a * n + a - 1) / b = h at h1 ⊢
    rcases Int.lt_or_le (h - l) a with w | w
    · omega
    · exfalso
      have h2 : b * a ≤ b * (h - l) := Int.mul_le_mul_of_nonneg_left w (by omega)
      have h3 : 1 * a ≤ b * a := Int.mul_le_mul_of_nonneg_right (by omega) (by omega)
      rw [Int.mul_sub] at h2
      omega
  refine key _ ?_
  by_cases h : n = 0
  · rw [if_pos h, h, Int.mul_zero, Int.mul_one]
    omega
  · rw [if_neg h]
    exact (lo_iff g.b1).mp (Int.le_refl _)
/-- found figure by figure -/
def dueN (a b n : Int) : Nat → List Int
  | 0 => []
  | i + 1 => dueN a b n i ++ (if (a * n + (i : Int)) % b = 0 ∧ 0 < a * n + (i : Int) then [(a * n + (i : Int)) / b] else [])
theorem dueN_mem {a b n z : Int} (hb : 1 ≤ b) (h0 : 0 ≤ a * n) : ∀ i : Nat, z ∈ dueN a b n i ↔ 1 ≤ z ∧ a * n ≤ b * z ∧ b * z < a * n + i
  | 0 => by
    constructor
    · intro h; cases h
    · rintro ⟨_, h1, h2⟩; omega
  | i + 1 => by
    show z ∈ dueN a b n i ++ _ ↔ _
    rw [List.mem_append, dueN_mem hb h0 i]
    by_cases c : (a * n + (i : Int)) % b = 0 ∧ 0 < a * n + (i : Int)
    · rw [if_pos c, List.mem_singleton]
      have e := Int.mul_ediv_add_emod (a * n + (i : Int)) b
      rw [c.1, Int.add_zero] at e
      constructor
      · rintro (⟨h1, h2, h3⟩ | rfl)
        · exact ⟨h1, h2, by omega⟩
        · refine ⟨?_, by omega, by omega⟩
          rcases Int.lt_or_le 0 ((a * n + (i : Int)) / b) with w | w
          · omega
          · have := Int.mul_le_mul_of_nonneg_left w (show 0 ≤ b by omega)
            rw [Int.mul_zero] at this
            omega
      · rintro ⟨h1, h2, h3⟩
        by_cases w : b * z = a * n + (i : Int)
        · right
          exact Int.eq_of_mul_eq_mul_left (show b ≠ 0 by omega) (w.trans e.symm)
        · exact .inl ⟨h1, h2, by omega⟩
    · rw [if_neg c]
      constructor
      · rintro (⟨h1, h2, h3⟩ | h)
        · exact ⟨h1, h2, by omega⟩
        · cases h
      · rintro ⟨h1, h2, h3⟩
        refine .inl ⟨h1, h2, ?_⟩
        by_cases w : b * z = a * n + (i : Int)
        · exfalso
          apply c
          refine ⟨by rw [← w]; exact Int.mul_emod_right b z, ?_⟩
          have : 1 * z ≤ b * z := Int.mul_le_mul_of_nonneg_right hb (by omega)
          omega
        · omega
theorem dueN_asc {a b n : Int} (hb : 1 ≤ b) (h0 : 0 ≤ a * n) : ∀ i : Nat, (dueN a b n i).Pairwise (· < ·)
  | 0 => .nil
  | i + 1 => by
    show (dueN a b n i ++ _).Pairwise _
    rw [List.pairwise_append]
    refine ⟨dueN_asc hb h0 i, ?_, fun x hx y hy => ?_⟩
    · split
      · exact List.pairwise_singleton _ _
      · exact .nil
    · obtain ⟨h1, h2, h3⟩ := (dueN_mem hb h0 i).mp hx
      split at hy
      · rename_i c
        have e := Int.mul_ediv_add_emod (a * n + (i : Int)) b
        rw [c.1, Int.add_zero] at e
        rw [List.mem_singleton.mp hy]
        exact Int.lt_of_mul_lt_mul_left (show b * x < b * ((a * n + (i : Int)) / b) by omega) (by omega)
      · cases hy
theorem due_nxt {a b n : Int} (g : GB a b) (h0 : 0 ≤ n) : dueN a b n a.toNat = nxt a b n := by
  have gg := g.ok
  have p : 0 ≤ a * n := Int.mul_nonneg (by omega) h0
  refine asc_eq _ _ (dueN_asc g.b1 p _) (nxt_asc a b n) fun k => ?_
  rw [dueN_mem g.b1 p, nxt_mem g h0, show ((a.toNat : Nat) : Int) = a by omega]
theorem nxt_head {a b : Int} (g : GB a b) {n : Int} (h0 : 0 ≤ n) (i : Nat) (hn : n = i) : rgI 1 ((a * i - 1) / b + 1) ++ nxt a b n = rgI 1 ((a * ((i + 1 : Nat) : Int) - 1) / b + 1) := by
  have gg := g.ok
  subst hn
  unfold nxt
  have e2 : a * ((i + 1 : Nat) : Int) - 1 = a * (i : Int) + a - 1 := by
    rw [show ((i + 1 : Nat) : Int) = (i : Int) + 1 by omega, Int.mul_add, Int.mul_one]
  rw [e2]
  have p : 0 ≤ a * (i : Int) := Int.mul_nonneg (by omega) (by omega)
  have hh : 0 ≤ (a * (i : Int) + a - 1) / b := Int.ediv_nonneg (by omega) (by omega)
  by_cases h : (i : Int) = 0
  · rw [if_pos h, h, Int.mul_zero, Int.zero_add]
    have z : (0 - 1) / b + 1 ≤ 1 := by
      have : (0 - 1) / b < 1 := Int.ediv_lt_of_lt_mul (by omega) (by omega)
      have h2 : (0 - 1) / b ≤ 0 := by omega
      omega
    rw [rgI_nil z, List.nil_append]
  · rw [if_neg h]
    have q := Int.mul_le_mul_of_nonneg_left (show 1 ≤ (i : Int) by omega) (show 0 ≤ a by omega)
    rw [Int.mul_one] at q
    have lo : -(-a * (i : Int) / b) = (a * (i : Int) - 1) / b + 1 := by
      rw [Int.neg_mul, ← up_div g.b1, show a * (i : Int) + b - 1 = a * (i : Int) - 1 + b * 1 by omega, Int.add_mul_ediv_left _ _ (by omega)]
    rw [lo]
    refine rgI_app ?_ ?_
    · have := Int.ediv_nonneg (show 0 ≤ a * (i : Int) - 1 by omega) (show 0 ≤ b by omega)
      omega
    · have := Int.ediv_le_ediv (show 0 < b by omega) (show a * (i : Int) - 1 ≤ a * (i : Int) + a - 1 by omega)
      omega
theorem cut_init (r : List Int) (x : Int) : cutI (r ++ [x]) none (some (-1)) = r := by
  unfold cutI
  have e : HT.sIx (r ++ [x]).length (r ++ [x]).length (some (-1)) = r.length := by
    show (if (-1 : Int) < 0 then ((-1 : Int) + ((r ++ [x]).length : Int)).toNat else min (-1 : Int).toNat (r ++ [x]).length) = r.length
    rw [if_pos (by decide), List.length_append, List.length_singleton]
    omega
  rw [e, HT.sIx_none, List.drop_zero, Nat.sub_zero, List.take_left]
theorem row_great2 {a b n : Int} (g : GB a b) (h0 : 0 ≤ n) (h1 : n < 10 ^ 42) (h2 : 10 * (a - b) < a → n < 1000) : (row a b n).length ≤ 1000 := by
  have := g.ok
  by_cases h : 10 * (a - b) < a
  · have l := row_len_le g.b1 g.ba n h0
    have := h2 h
    omega
  · have l := row_len_short g.b1 g.ba (by omega) 950 n h0 (by
      have e : (10 : Int) ^ 42 * 9 ^ 950 < 10 ^ 950 := by decide +kernel
      have : n * 9 ^ 950 ≤ 10 ^ 42 * 9 ^ 950 := Int.mul_le_mul_of_nonneg_right (by omega) (by decide +kernel)
      omega)
    omega
/-! ### back and forth -/
def bkN (a b : Int) : Nat → Int → Int
  | 0, x => x
  | k + 1, x => bkN a b k (b * x / a)
theorem bkN_last (a b : Int) : ∀ (k : Nat) (x : Int), bkN a b (k + 1) x = b * bkN a b k x / a
  | 0, x => rfl
  | k + 1, x => by
    show bkN a b (k + 1) (b * x / a) = b * bkN a b k (b * x / a) / a
    exact bkN_last a b k _
theorem bkN_nn {a b : Int} (hb : 1 ≤ b) (ha : b < a) : ∀ (k : Nat) (x : Int), 0 ≤ x → 0 ≤ bkN a b k x ∧ bkN a b k x ≤ x
  | 0, x, h => ⟨h, Int.le_refl _⟩
  | k + 1, x, h => by
    have ih := bkN_nn hb ha k x h
    rw [bkN_last]
    have h1 := div_nn hb ha ih.1
    refine ⟨h1, ?_⟩
    rcases Int.lt_or_le 0 (bkN a b k x) with w | w
    · have := div_lt' hb ha w
      omega
    · have e : bkN a b k x = 0 := by omega
      rw [e, Int.mul_zero, Int.zero_ediv]
      exact h
theorem fl_eq {a t u : Int} (ha : 0 < a) (h1 : a * u ≤ t) (h2 : t < a * u + a) : t / a = u := by
  rw [show t = (t - a * u) + a * u by omega, Int.add_mul_ediv_left _ _ (by omega), Int.ediv_eq_zero_of_lt (by omega) (by omega), Int.zero_add]
theorem up_lo {a b l : Int} (g : GB a b) : b * (-(-a * l / b)) / a = l ∧ b * (-(-a * l / b) - 1) / a = l - 1 := by
  have gg := g.ok
  have e := Int.neg_mul a l
  have d1 := Int.mul_ediv_add_emod (-a * l) b
  have d2 := Int.emod_nonneg (-a * l) (show b ≠ 0 by omega)
  have d3 := Int.emod_lt_of_pos (-a * l) (show 0 < b by omega)
  generalize -a * l / b = q at *
  refine ⟨fl_eq (by omega) ?_ ?_, fl_eq (by omega) ?_ ?_⟩
  · rw [Int.mul_neg]; omega
  · rw [Int.mul_neg]; omega
  · rw [Int.mul_sub, Int.mul_sub, Int.mul_neg]; omega
  · rw [Int.mul_sub, Int.mul_sub, Int.mul_neg]; omega
theorem up_hi {a b u : Int} (g : GB a b) : b * ((a * u + a - 1) / b) / a = u ∧ b * ((a * u + a - 1) / b + 1) / a = u + 1 := by
  have gg := g.ok
  have d1 := Int.mul_ediv_add_emod (a * u + a - 1) b
  have d2 := Int.emod_nonneg (a * u + a - 1) (show b ≠ 0 by omega)
  have d3 := Int.emod_lt_of_pos (a * u + a - 1) (show 0 < b by omega)
  generalize (a * u + a - 1) / b = q at *
  refine ⟨fl_eq (by omega) (by omega) (by omega), fl_eq (by omega) ?_ ?_⟩
  · rw [Int.mul_add, Int.mul_add]; omega
  · rw [Int.mul_add, Int.mul_add]; omega
theorem bk_lohi {a b n : Int} (g : GB a b) : ∀ k : Nat, bkN a b k (loN a b k n) = n ∧ bkN a b k (loN a b k n - 1) = n - 1 ∧ bkN a b k (hiN a b k n) = n ∧ bkN a b k (hiN a b k n + 1) = n + 1
  | 0 => ⟨rfl, rfl, rfl, rfl⟩
  | k + 1 => by
    obtain ⟨h1, h2, h3, h4⟩ := bk_lohi (n := n) g k
    have e1 := up_lo (l := loN a b k n) g
    have e2 := up_hi (u := hiN a b k n) g
    refine ⟨?_, ?_, ?_, ?_⟩
    · show bkN a b k (b * (-(-a * loN a b k n / b)) / a) = n
      rw [e1.1, h1]
    · show bkN a b k (b * (-(-a * loN a b k n / b) - 1) / a) = n - 1
      rw [e1.2, h2]
    · show bkN a b k (b * ((a * hiN a b k n + a - 1) / b) / a) = n
      rw [e2.1, h3]
    · show bkN a b k (b * ((a * hiN a b k n + a - 1) / b + 1) / a) = n + 1
      rw [e2.2, h4]
theorem loN_add (a b n : Int) (k : Nat) : ∀ j : Nat, loN a b j (loN a b k n) = loN a b (k + j) n
  | 0 => rfl
  | j + 1 => by
    show -(-a * loN a b j (loN a b k n) / b) = -(-a * loN a b (k + j) n / b)
    rw [loN_add a b n k j]
theorem hiN_add (a b n : Int) (k : Nat) : ∀ j : Nat, hiN a b j (hiN a b k n) = hiN a b (k + j) n
  | 0 => rfl
  | j + 1 => by
    show (a * hiN a b j (hiN a b k n) + a - 1) / b = (a * hiN a b (k + j) n + a - 1) / b
    rw [hiN_add a b n k j]
theorem lohi_sm {a b n : Int} (g : GB a b) (i : Nat) (h : 1 ≤ n) (hn : n < 2 ^ 500) (hi : i ≤ 300) : loN a b i n < 2 ^ 4000 ∧ hiN a b i n < 2 ^ 4000 := by
  obtain ⟨h1, h2, h3, h4⟩ := lohi_step g i h
  have p : (128 : Int) ^ i ≤ 128 ^ 300 := by
    have := Nat.pow_le_pow_right (n := 128) (by decide) hi
    have e : ∀ k : Nat, ((128 ^ k : Nat) : Int) = 128 ^ k := fun k => by rw [Int.natCast_pow] <;> rfl
    rw [← e, ← e]
    exact Int.ofNat_le.mpr this
  have p0 : (0 : Int) < 128 ^ i := Int.pow_pos (by decide)
  have z1 : n * 128 ^ i ≤ 2 ^ 500 * 128 ^ 300 := Int.mul_le_mul (by omega) p (by omega) (by decide +kernel)
  have z4 : (2 : Int) ^ 500 * 128 ^ 300 < 2 ^ 4000 := by decide +kernel
  exact ⟨by omega, by omega⟩
theorem rgI_last {i j : Int} (h : i < j) : (rgI i j).getLast?.getD 0 = j - 1 := by
  rw [← rgI_app (show i ≤ j - 1 by omega) (show j - 1 ≤ j by omega), rgI_cons (show j - 1 < j by omega), rgI_nil (show j ≤ j - 1 + 1 by omega), List.getLast?_append]
  rfl
theorem lo_le_hi {a b n : Int} (g : GB a b) : -(-a * n / b) ≤ (a * n + a - 1) / b := by
  have gg := g.ok
  rw [lo_iff g.b1]
  have d1 := Int.mul_ediv_add_emod (a * n + a - 1) b
  have d3 := Int.emod_lt_of_pos (a * n + a - 1) (show 0 < b by omega)
  omega
theorem lo_pos2 {a b n : Int} (g : GB a b) (h : 1 ≤ n) : 1 ≤ -(-a * n / b) ∧ -(-a * n / b) ≤ 128 * n := by
  have := lohi_step g 1 h
  have e : n * 128 ^ 1 = 128 * n := by rw [show (128 : Int) ^ 1 = 128 from rfl, Int.mul_comm]
  rw [e] at this
  exact ⟨this.1, this.2.2.1⟩
theorem row_len_mono {a b : Int} (hb : 1 ≤ b) (ha : b < a) : ∀ y, 0 ≤ y → ∀ x, 0 ≤ x → x ≤ y → (row a b x).length ≤ (row a b y).length := by
  refine row_ind hb ha (fun x h0 h1 => ?_) fun n h ih x h0 h1 => ?_
  · rw [show x = 0 by omega]
    exact Nat.le_refl _
  · rcases Int.lt_or_le 0 x with hx | hx
    · rw [row_len_step hb ha hx, row_len_step hb ha h]
      have h2 : b * x / a ≤ b * n / a := Int.ediv_le_ediv (by omega) (Int.mul_le_mul_of_nonneg_left h1 (by omega))
      have h3 := ih (b * x / a) (div_nn hb ha h0) h2
      omega
    · rw [row_nil hx]
      exact Nat.zero_le _
theorem listLt_self (l : List Int) : PySem.W.listLt l l = false := by
  induction l with
  | nil => rfl
  | cons x l ih => rw [PySem.W.listLt, if_pos rfl, ih]
theorem listLt_pre : ∀ (l r : List Int) (u v : Int), l.length = r.length → PySem.W.listLt l r = true → PySem.W.listLt (l ++ [u]) (r ++ [v]) = true
  | [], [], u, v, _, h => by cases h
  | x :: l, [], u, v, hl, h => by cases hl
  | [], y :: r, u, v, hl, h => by cases hl
  | x :: l, y :: r, u, v, hl, h => by
    rw [PySem.W.listLt] at h
    rw [List.cons_append, List.cons_append, PySem.W.listLt]
    by_cases e : x = y
    · rw [if_pos e] at h ⊢
      exact listLt_pre l r u v (by simpa using hl) h
    · rw [if_neg e] at h ⊢
      exact h
theorem listLt_last (l : List Int) (u v : Int) (h : u < v) : PySem.W.listLt (l ++ [u]) (l ++ [v]) = true := by
  induction l with
  | nil =>
    rw [List.nil_append, List.nil_append, PySem.W.listLt, if_neg (by omega)]
    exact decide_eq_true h
  | cons x l ih => rw [List.cons_append, List.cons_append, PySem.W.listLt, if_pos rfl, ih]
theorem row_lt {a b : Int} (hb : 1 ≤ b) (ha : b < a) : ∀ y, 0 ≤ y → ∀ x, 0 ≤ x → x < y → (row a b x).length = (row a b y).length → PySem.W.listLt (row a b x) (row a b y) = true := by
  refine row_ind hb ha (fun x h0 h1 => by omega) fun n h ih x h0 h1 hl => ?_
  rcases Int.lt_or_le 0 x with hx | hx
  · rw [row_len_step hb ha hx, row_len_step hb ha h] at hl
    rw [row_step hb ha hx, row_step hb ha h]
    have h2 : b * x ≤ b * n := Int.mul_le_mul_of_nonneg_left (by omega) (by omega)
    have h3 : b * x < b * n := Int.mul_lt_mul_of_pos_left h1 (by omega)
    have h4 : b * x / a ≤ b * n / a := Int.ediv_le_ediv (by omega) h2
    have d1 := Int.mul_ediv_add_emod (b * x) a
    have d2 := Int.mul_ediv_add_emod (b * n) a
    rcases Int.lt_or_le (b * x / a) (b * n / a) with h5 | h5
    · exact listLt_pre _ _ _ _ (by omega) (ih _ (div_nn hb ha h0) h5 (by omega))
    · have e : b * x / a = b * n / a := by omega
      rw [e] at d1 ⊢
      exact listLt_last _ _ _ (by omega)
  · rw [row_nil hx, row_len_step hb ha h] at hl
    simp at hl
theorem row_order {a b x y : Int} (g : GB a b) (h0 : 0 ≤ x) (h : x ≤ y) : (if (((row a b x).length : Nat) : Int) = (((row a b y).length : Nat) : Int) then PySem.W.listLt (row a b x) (row a b y) else decide ((((row a b x).length : Nat) : Int) < (((row a b y).length : Nat) : Int))) = decide (x < y) := by
  have hm := row_len_mono g.b1 g.ba y (by omega) x h0 h
  rcases Int.lt_or_le x y with h1 | h1
  · rw [decide_eq_true h1]
    split
    · exact row_lt g.b1 g.ba y (by omega) x h0 h1 (by omega)
    · exact decide_eq_true (by omega)
  · have e : x = y := by omega
    subst e
    rw [if_pos rfl, listLt_self, decide_eq_false (by omega)]
theorem left_len {a b n m : Int} {l : List Int} (g : GB a b) (hf : figs a l = true) (h : rdo a b 0 l = some n) (m0 : 0 ≤ m) (hmn : m ≤ n) : (row a b (n - m)).length ≤ l.length := by
  have gg := g.ok
  have n0 := rdo_nn (by omega) (by omega) _ _ _ (Int.le_refl 0) hf h
  have e1 := plain_row g hf h
  have l1 := plainF_len l
  rw [e1] at l1
  exact Nat.le_trans (row_len_mono g.b1 g.ba n n0 (n - m) (by omega) (by omega)) l1
/-! ### the whole way -/
theorem row_great3 {a b n : Int} (g : GB a b) (h0 : 0 ≤ n) (h1 : n < 10 ^ 42) (h2 : 10 * (a - b) < a → n < 1500) : (row a b n).length ≤ 1500 := by
  have := g.ok
  by_cases h : 10 * (a - b) < a
  · have l := row_len_le g.b1 g.ba n h0
    have := h2 h
    omega
  · have l := row_len_short g.b1 g.ba (by omega) 950 n h0 (by
      have e : (10 : Int) ^ 42 * 9 ^ 950 < 10 ^ 950 := by decide +kernel
      have : n * 9 ^ 950 ≤ 10 ^ 42 * 9 ^ 950 := Int.mul_le_mul_of_nonneg_right (by omega) (by decide +kernel)
      omega)
    omega
theorem row_bk {a b : Int} (hb : 1 ≤ b) (ha : b < a) : ∀ (k : Nat) (x : Int), 0 ≤ x → 1 ≤ bkN a b k x → ∃ s, row a b x = row a b (bkN a b k x) ++ s ∧ s.length = k
  | 0, x, _, _ => ⟨[], (List.append_nil _).symm, rfl⟩
  | k + 1, x, h0, h => by
    have hx : 0 < x := by
      have := (bkN_nn hb ha (k + 1) x h0).2
      omega
    obtain ⟨s, e, l⟩ := row_bk hb ha k (b * x / a) (div_nn hb ha h0) h
    refine ⟨s ++ [b * x % a], ?_, by rw [List.length_append, l]; rfl⟩
    show row a b x = row a b (bkN a b k (b * x / a)) ++ _
    rw [row_step hb ha hx, e, List.append_assoc]
theorem meet_pre {a b n lo hi w : Int} {s s' : List Int} (h1 : row a b lo = row a b n ++ s) (h2 : row a b hi = row a b n ++ s') (h : Mt a b lo hi w) : (row a b w).take (row a b n).length = row a b n ∧ (row a b w).length ≤ (row a b lo).length := by
  have hc : (row a b n).length ≤ cpl (row a b lo) (row a b hi) := cpl_max _ _ _ (by rw [h1, List.length_append]; omega) (by rw [h2, List.length_append]; omega) (by rw [h1, h2, List.take_left, List.take_left])
  have e := h.2
  constructor
  · rw [e, List.take_take, Nat.min_eq_left hc, h1, List.take_left]
  · rw [e, List.length_take]
    omega
theorem lastF_zero (a b : Int) : ∀ m : Nat, lastF a b m 0 = List.replicate m 0
  | 0 => rfl
  | m + 1 => by
    show lastF a b m (b * 0 / a) ++ [b * 0 % a] = _
    rw [Int.mul_zero, Int.zero_ediv, Int.zero_emod, lastF_zero a b m, List.replicate_succ']
theorem lastF_row {a b : Int} (hb : 1 ≤ b) (ha : b < a) : ∀ n, 0 ≤ n → ∀ m : Nat, lastF a b m n = (List.replicate m 0 ++ row a b n).drop (row a b n).length := by
  refine row_ind hb ha (fun m => ?_) fun n h ih m => ?_
  · rw [row_nil (Int.le_refl 0), lastF_zero, List.append_nil]
    rfl
  · cases m with
    | zero => simp [lastF]
    | succ m =>
      show lastF a b m (b * n / a) ++ [b * n % a] = _
      have e : (List.replicate m (0 : Int) ++ row a b (b * n / a) ++ [b * n % a]).drop (row a b (b * n / a)).length = (List.replicate m (0 : Int) ++ row a b (b * n / a)).drop (row a b (b * n / a)).length ++ [b * n % a] :=
        List.drop_append_of_le_length (by rw [List.length_append]; omega)
      rw [ih m, row_step hb ha h, List.length_append, List.length_singleton, List.replicate_succ, List.cons_append, List.drop_succ_cons, ← List.append_assoc, e]
theorem cut_negk (ns : List Int) (k : Nat) (hk : 0 < k) : cutI ns (some (-(k : Int))) none = ns.drop (ns.length - k) := by
  unfold cutI
  have e : HT.sIx ns.length 0 (some (-(k : Int))) = ns.length - k := by
    show (if (-(k : Int)) < 0 then ((-(k : Int)) + (ns.length : Int)).toNat else min (-(k : Int)).toNat ns.length) = ns.length - k
    rw [if_pos (by omega)]
    omega
  rw [e, HT.sIx_none, ← List.length_drop, List.take_length]
theorem last_few {a b n : Int} (g : GB a b) (n0 : 0 ≤ n) (k : Nat) : (row a b n).drop ((row a b n).length - k) = lastF a b (min k (row a b n).length) n := by
  have e : (List.replicate (min k (row a b n).length) (0 : Int)).drop (row a b n).length = [] := List.drop_eq_nil_of_le (by rw [List.length_replicate]; omega)
  rw [lastF_row g.b1 g.ba n n0, List.drop_append, List.length_replicate, e, List.nil_append]
  congr 1
  omega
theorem lo_hi_row {a b n : Int} (g : GB a b) (h : 1 ≤ n) : loN a b ((row a b n).length - 1) 1 ≤ n ∧ n ≤ hiN a b (row a b n).length 0 := by
  have hl : 1 ≤ (row a b n).length := by rw [row_len_step g.b1 g.ba (by omega)]; omega
  have h1 := len_iff g ((row a b n).length - 1) n h
  have h2 := len_iff g (row a b n).length n h
  have h3 := hi_lo g (row a b n).length
  refine ⟨h1.mpr (by omega), ?_⟩
  have : ¬ loN a b (row a b n).length 1 ≤ n := fun z => by have := h2.mp z; omega
  omega
theorem spread_pre {a b n : Int} (g : GB a b) (h : 1 ≤ n) (k : Nat) : (∃ s, row a b (loN a b k n) = row a b n ++ s ∧ s.length = k) ∧ (∃ s, row a b (hiN a b k n) = row a b n ++ s ∧ s.length = k) := by
  have gg := g.ok
  have st := lohi_step g k h
  have bk := bk_lohi (n := n) g k
  have h1 := row_bk g.b1 g.ba k (loN a b k n) (by omega) (by rw [bk.1]; exact h)
  have h2 := row_bk g.b1 g.ba k (hiN a b k n) (by omega) (by rw [bk.2.2.1]; exact h)
  rw [bk.1] at h1
  rw [bk.2.2.1] at h2
  exact ⟨h1, h2⟩
theorem head_ne {a b n : Int} (g : GB a b) (h : 0 ≤ n) : (row a b n).take 1 ≠ [0] := by
  have hh := row_head g n h
  intro e
  cases z : row a b n with
  | nil => rw [z] at e; cases e
  | cons u r =>
    rw [z] at e hh
    have e : [u] = [0] := e
    injection e with e1
    exact hh u rfl e1
theorem take_row {a b n z : Int} (g : GB a b) (h : 0 ≤ n) (k : Nat) (hz : rdo a b 0 ((row a b n).take k) = some z) : (row a b n).take k = row a b z := by
  refine row_of_plain g _ z (figs_take (figs_of (row_fig g.b1 g.ba n h)) k) (fun x hx => ?_) hz
  refine row_head g n h x ?_
  cases e : row a b n with
  | nil => rw [e] at hx; simp at hx
  | cons u r =>
    rw [e] at hx
    cases k with
    | zero => simp at hx
    | succ k => simpa using hx
theorem listLt_asym : ∀ l r : List Int, PySem.W.listLt l r = true → PySem.W.listLt r l = false
  | [], [], h => by cases h
  | [], _ :: _, _ => rfl
  | _ :: _, [], h => by cases h
  | x :: l, y :: r, h => by
    rw [PySem.W.listLt] at h ⊢
    by_cases e : x = y
    · rw [if_pos e] at h
      rw [if_pos e.symm]
      exact listLt_asym l r h
    · rw [if_neg e] at h
      rw [if_neg fun z => e z.symm]
      have := of_decide_eq_true h
      exact decide_eq_false (by omega)
theorem row_order2 {a b x y : Int} (g : GB a b) (h0 : 0 ≤ x) (h1 : 0 ≤ y) : (if (((row a b x).length : Nat) : Int) = (((row a b y).length : Nat) : Int) then PySem.W.listLt (row a b x) (row a b y) else decide ((((row a b x).length : Nat) : Int) < (((row a b y).length : Nat) : Int))) = decide (x < y) := by
  rcases Int.lt_or_le y x with h | h
  · rw [show decide (x < y) = false from decide_eq_false (by omega)]
    have hm := row_len_mono g.b1 g.ba x h0 y h1 (by omega)
    split
    · exact listLt_asym _ _ (row_lt g.b1 g.ba x h0 y h1 h (by omega))
    · exact decide_eq_false (by omega)
  · exact row_order g h0 h
theorem worth_whole {a b n : Int} {l : List Int} (g : GB a b) (h : rdo a b 0 l = some n) : red (topF a b 0 1 l) (b ^ l.length) = (n, 1) := by
  have gg := g.ok
  rw [(top_iff g l n).mp h]
  exact red_whole (Int.pow_pos (by omega))
theorem worth_part {a b : Int} {l : List Int} (g : GB a b) : (red (topF a b 0 1 l) (b ^ l.length)).2 = 1 ↔ ∃ n, rdo a b 0 l = some n := by
  have gg := g.ok
  rw [red_one (Int.pow_pos (by omega))]
  exact ⟨fun ⟨y, h⟩ => ⟨y, (top_iff g l y).mpr h⟩, fun ⟨n, h⟩ => ⟨n, (top_iff g l n).mp h⟩⟩
theorem Mt.le {a b n m w : Int} (hb : 1 ≤ b) (ha : b < a) (hn : 0 ≤ n) (h : Mt a b n m w) : w ≤ n := by
  obtain ⟨u, _, u0, un, ur⟩ := ways_at hb ha n hn _ (cpl_le (row a b n) (row a b m)).1
  have := row_inj hb ha h.1 u0 (h.2.trans ur.symm)
  omega

theorem gB : GB 3 2 := ⟨by decide, by decide, by decide, by decide, by decide⟩
theorem end_only {a b : Int} (g : GB a b) {m : Nat} {f f0 : Int} (h : lastF a b m f = lastF a b m f0) (z : 0 ≤ f) (y : f < a ^ m) (z0 : 0 ≤ f0) (y0 : f0 < a ^ m) : f = f0 := by
  obtain ⟨q, hq⟩ := (lastF_iff g m _ _).mp h
  have e1 : f % (a ^ m) = f := Int.emod_eq_of_lt z y
  have e2 : f0 % (a ^ m) = f0 := Int.emod_eq_of_lt z0 y0
  have e3 : f = f0 + a ^ m * q := by omega
  rw [e3, Int.add_mul_emod_self_left, e2] at e1
  omega
theorem low_rows : ∀ n : Nat, n < 91 → (row 3 2 (n : Int)).length ≤ 40 ∧ lastF 3 2 (row 3 2 (n : Int)).length (n : Int) = row 3 2 (n : Int) ∧ (n : Int) < 3 ^ (row 3 2 (n : Int)).length ∧ (3 : Int) ^ (row 3 2 (n : Int)).length < 10 ^ 12 := by decide +kernel
theorem low_row {n : Int} (h0 : 0 ≤ n) (h1 : n ≤ 90) : (row 3 2 n).length ≤ 40 ∧ lastF 3 2 (row 3 2 n).length n = row 3 2 n ∧ n < 3 ^ (row 3 2 n).length ∧ (3 : Int) ^ (row 3 2 n).length < 10 ^ 12 := by
  have h := low_rows n.toNat (by omega)
  rw [show ((n.toNat : Nat) : Int) = n by omega] at h
  exact h
theorem mid_row {n : Int} (h0 : 0 ≤ n) (h1 : n ≤ 2700) : (row 3 2 n).length ≤ 1000 := by
  by_cases z : 0 < n
  · rw [row_len_step gB.b1 gB.ba z]
    by_cases z1 : 0 < 2 * n / 3
    · rw [row_len_step gB.b1 gB.ba z1]
      by_cases z2 : 0 < 2 * (2 * n / 3) / 3
      · rw [row_len_step gB.b1 gB.ba z2]
        have := row_len_le gB.b1 gB.ba (2 * (2 * (2 * n / 3) / 3) / 3) (by omega)
        omega
      · rw [row_nil (show 2 * (2 * n / 3) / 3 ≤ 0 by omega)]
        simp
    · rw [row_nil (show 2 * n / 3 ≤ 0 by omega)]
      simp
  · rw [row_nil (by omega)]
    simp
theorem fig_small {n : Int} (h : 0 ≤ n) : ∀ x ∈ row 3 2 n, x.natAbs < 10 ^ 12 := fun x hx => by
  have := row_fig gB.b1 gB.ba n h x hx
  omega
theorem len_any {n : Int} (h0 : 0 ≤ n) (h1 : n < 10 ^ 40) : (row 3 2 n).length ≤ 2000 := by
  have := row_great3 gB h0 (by omega) (fun z => by omega)
  omega
/-- the numbers whose rows are handed in -/
def OkW (two : Bool) (ws : List Int) : Prop := ∃ n m : Int, 0 ≤ m ∧ m ≤ n ∧ n ≤ 90 ∧ ws = if two = true then [n, m] else [n]
theorem OkW.len {two : Bool} {ws : List Int} (h : OkW two ws) : ws.length = if two = true then 2 else 1 := by
  obtain ⟨n, m, _, _, _, e⟩ := h
  cases two <;> (rw [e]; rfl)
theorem OkW.mem {two : Bool} {ws : List Int} (h : OkW two ws) : ∀ n ∈ ws, 0 ≤ n ∧ n ≤ 90 := fun x hx => by
  obtain ⟨n, m, _, _, _, e⟩ := h
  cases two
  · rw [e, if_neg Bool.false_ne_true] at hx
    rw [List.mem_singleton.mp hx]
    omega
  · rw [e, if_pos rfl] at hx
    rcases List.mem_cons.mp hx with z | z
    · rw [z]; omega
    · rw [List.mem_singleton.mp z]; omega
theorem OkW.rows {two : Bool} {ws : List Int} (h : OkW two ws) : ∀ ns ∈ ws.map (row 3 2), ns.length ≤ 2000 := fun ns hn => by
  obtain ⟨n, m, e⟩ := List.mem_map.mp hn
  have h1 := h.mem n m
  have h2 := low_row h1.1 h1.2
  rw [← e]
  omega
def Rows (H : Hp) (L : Addr) (ws : List Int) : Prop := ∃ xs, OB H L (.lst xs) ∧ Fa (LI H) xs (ws.map (row 3 2))
theorem Rows.sx {H G : Hp} {L : Addr} {ws : List Int} (s : SX H G) (h : Rows G L ws) : Rows H L ws := by
  obtain ⟨xs, o, f⟩ := h
  exact ⟨xs, ⟨s.s _ _ o.h⟩, f.imp fun _ _ z => z.mono s⟩
/-- what a door is asked -/
def AskSp (K : PySem.W.Frag) (two : Bool) (ans : List Int → PyData) (cap : Hp → Prop) : Sp := fun vs H Q _ => ∃ (p : Addr) (ws : List Int), vs = [.ref p] ∧ Rows H p ws ∧ OkW two ws ∧ cap H ∧ Told K Q (ans ws) H
def AskOk (P : Program) (w : World) (K : PySem.W.Frag) (mg : Str → Option Value) (base : Heap) (two : Bool) (H : Hp) (v : V) : Prop :=
  ∃ (f : Addr) (F : NdefX.NF) (e : Expr) (ans : List Int → PyData) (cap : Hp → Prop), v = .ref f ∧ OB H f (LamO f F e) ∧ OB H F.c (LamX.CodeO F.c F.qual) ∧ (∀ H1 H2, SX H2 H1 → cap H1 → cap H2) ∧ cap H ∧ LamPG P w K mg base 13 f F e (AskSp K two ans cap)
theorem AskOk.mk {P : Program} {w : World} {K : PySem.W.Frag} {mg : Str → Option Value} {base : Heap} {two : Bool} {H : Hp} {f : Addr} {F : NdefX.NF} {e : Expr} [o : OB H f (LamO f F e)] [oc : OB H F.c (LamX.CodeO F.c F.qual)] (ans : List Int → PyData) (cap : Hp → Prop) (m : ∀ H1 H2, SX H2 H1 → cap H1 → cap H2) (cp : cap H) (l : LamPG P w K mg base 13 f F e (AskSp K two ans cap)) : AskOk P w K mg base two H (.ref f) := ⟨f, F, e, ans, cap, rfl, o, oc, m, cp, l⟩
theorem AskOk.sx {P : Program} {w : World} {K : PySem.W.Frag} {mg : Str → Option Value} {base : Heap} {two : Bool} {H G : Hp} {v : V} (s : SX H G) (h : AskOk P w K mg base two G v) : AskOk P w K mg base two H v := by
  obtain ⟨f, F, e, ans, cap, rfl, o, oc, m, cp, l⟩ := h
  exact ⟨f, F, e, ans, cap, rfl, ⟨s.s _ _ o.h⟩, ⟨s.s _ _ oc.h⟩, m, m _ _ s cp, l⟩
theorem fa_of {α β : Type} {R : α → β → Prop} : ∀ {xs : List α} {ys : List β}, xs.length = ys.length → (∀ (j : Nat) (x : α) (y : β), xs[j]? = some x → ys[j]? = some y → R x y) → Fa R xs ys
  | [], [], _, _ => .nil
  | [], _ :: _, h, _ => by cases h
  | _ :: _, [], h, _ => by cases h
  | x :: xs, y :: ys, h, r => .cons (r 0 x y rfl rfl) (fa_of (by simpa using h) fun j a b h1 h2 => r (j + 1) a b h1 h2)
theorem nodup_at {xs : List V} (h : xs.Nodup) {i j : Nat} {v : V} (hi : xs[i]? = some v) (hj : xs[j]? = some v) : i = j := by
  obtain ⟨a1, a2⟩ := List.getElem?_eq_some_iff.mp hi
  obtain ⟨b1, b2⟩ := List.getElem?_eq_some_iff.mp hj
  exact (List.getElem_inj h).mp (a2.trans b2.symm)

theorem doors_key {P : Program} {w : World} {K : PySem.W.Frag} {mg : Str → Option Value} {two : Bool} {asks : List V} {H HA : Hp} {pA : Addr} {CLS G : Heap → Prop} (o : OB HA pA (.lst asks)) (key : ∀ b, CLS b → ∀ H', SX H' H → ∀ v ∈ asks, AskOk P w K mg b two H' v) (k : (∀ b, CLS b → ∀ H', SX H' H → ∀ v ∈ asks, AskOk P w K mg b two H' v) → ∀ b, CLS b → G b) : ∀ b, CLS b → G b := k key
section
variable {P : Program} {w : World} {K : PySem.W.Frag} {mg : Str → Option Value} {base : Heap} {c : Nat → Addr}
theorem sc_is_whole : FnScope ["thing"] ["thing"] (defScope s_is_whole) := ⟨rfl, rfl, rfl, by decide +kernel, rfl, by decide +kernel, by decide +kernel⟩
def sp_is_whole : Sp := fun vs H Q _ => ∃ n, vs = [.int n] ∧ Q (.bl true) H
theorem go_is_whole {n H Q E} (q : Q (.bl true) H) : sp_is_whole [.int n] H Q E := ⟨n, rfl, q⟩
theorem ok_is_whole (T : Top K mg c) : Fn P w K mg base "is_whole" ["thing"] 1 sp_is_whole := by
  have iO_Writes : OwnI K (c 1) := ⟨T.o_Writes⟩
  have iA_Writes_number : NoaI K (c 1) "number" := ⟨T.a_Writes_number⟩
  have iK_Writes_Writes : KitI K (c 1) (c 1) true := ⟨T.q_Writes.kit T.k_Writes_Writes.1 T.k_Writes_Writes.2⟩
  have iO_Breaks : OwnI K (c 2) := ⟨T.o_Breaks⟩
  have iA_Breaks_place : NoaI K (c 2) "place" := ⟨T.a_Breaks_place⟩
  have iA_Breaks_left : NoaI K (c 2) "left" := ⟨T.a_Breaks_left⟩
  have iK_Breaks_Writes : KitI K (c 2) (c 1) false := ⟨T.q_Writes.kit T.k_Breaks_Writes.1 T.k_Breaks_Writes.2⟩
  have iO_Sum : OwnI K (c 3) := ⟨T.o_Sum⟩
  have iA_Sum_row : NoaI K (c 3) "row" := ⟨T.a_Sum_row⟩
  have iA_Sum_carries : NoaI K (c 3) "carries" := ⟨T.a_Sum_carries⟩
  have iK_Sum_Writes : KitI K (c 3) (c 1) false := ⟨T.q_Writes.kit T.k_Sum_Writes.1 T.k_Sum_Writes.2⟩
  have iO_Times : OwnI K (c 4) := ⟨T.o_Times⟩
  have iA_Times_row : NoaI K (c 4) "row" := ⟨T.a_Times_row⟩
  have iA_Times_carries : NoaI K (c 4) "carries" := ⟨T.a_Times_carries⟩
  have iK_Times_Writes : KitI K (c 4) (c 1) false := ⟨T.q_Writes.kit T.k_Times_Writes.1 T.k_Times_Writes.2⟩
  refine T.f_is_whole.ok sc_is_whole (fun vs H Q E h => ?_) (fun f cdv A outer s H vs Q E hr h => ?_)
  · obtain ⟨n, rfl, q⟩ := h
    rfl
  · obtain ⟨n, rfl, q⟩ := h
    refine ⟨_, (pss_one (ps_ret (pe_and (pe_callB (cr_isiB (K := K) rfl) rfl T.n_isinstance (by decide +kernel) (pa_cons (pv 0) (pa_cons (pe_bltn (v := .ty "int") (u := .type "int") rfl T.n_int (by decide +kernel) rfl) pa_nil))) (pe_one (pe_not (pe_callB (cr_isiB (K := K) rfl) rfl T.n_isinstance (by decide +kernel) (pa_cons (pv 0) (pa_cons (pe_bltn (v := .ty "bool") (u := .type "bool") rfl T.n_bool (by decide +kernel) rfl) pa_nil)))))))), ?_⟩
    walk_at "go"
    exact q
theorem sc_common : FnScope ["one", "other"] ["one", "other"] (defScope s_common) := ⟨rfl, rfl, rfl, by decide +kernel, rfl, by decide +kernel, by decide +kernel⟩
def sp_common : Sp := fun vs H Q _ => ∃ x y : Int, vs = [.int x, .int y] ∧ 0 ≤ x ∧ 0 ≤ y ∧ Q (.int (Int.gcd x y)) H
theorem go_common {x y : Int} {H Q E} (h0 : 0 ≤ x) (h1 : 0 ≤ y) (q : Q (.int (Int.gcd x y)) H) : sp_common [.int x, .int y] H Q E := ⟨x, y, rfl, h0, h1, q⟩
theorem gcd_mod {x y : Int} (hx : 0 ≤ x) (hy : 0 ≤ y) : Int.gcd y (x % y) = Int.gcd y x := by
  obtain ⟨m, rfl⟩ := Int.eq_ofNat_of_zero_le hx
  obtain ⟨k, rfl⟩ := Int.eq_ofNat_of_zero_le hy
  rw [show ((m : Int) % (k : Int)) = ((m % k : Nat) : Int) from by simp]
  show Nat.gcd _ _ = Nat.gcd _ _
  rw [Int.natAbs_natCast, Int.natAbs_natCast, Int.natAbs_natCast, Nat.gcd_rec k m, Nat.gcd_comm]
theorem ok_common (T : Top K mg c) : Fn P w K mg base "common" ["one", "other"] 1 sp_common := by
  have iO_Writes : OwnI K (c 1) := ⟨T.o_Writes⟩
  have iA_Writes_number : NoaI K (c 1) "number" := ⟨T.a_Writes_number⟩
  have iK_Writes_Writes : KitI K (c 1) (c 1) true := ⟨T.q_Writes.kit T.k_Writes_Writes.1 T.k_Writes_Writes.2⟩
  have iO_Breaks : OwnI K (c 2) := ⟨T.o_Breaks⟩
  have iA_Breaks_place : NoaI K (c 2) "place" := ⟨T.a_Breaks_place⟩
  have iA_Breaks_left : NoaI K (c 2) "left" := ⟨T.a_Breaks_left⟩
  have iK_Breaks_Writes : KitI K (c 2) (c 1) false := ⟨T.q_Writes.kit T.k_Breaks_Writes.1 T.k_Breaks_Writes.2⟩
  have iO_Sum : OwnI K (c 3) := ⟨T.o_Sum⟩
  have iA_Sum_row : NoaI K (c 3) "row" := ⟨T.a_Sum_row⟩
  have iA_Sum_carries : NoaI K (c 3) "carries" := ⟨T.a_Sum_carries⟩
  have iK_Sum_Writes : KitI K (c 3) (c 1) false := ⟨T.q_Writes.kit T.k_Sum_Writes.1 T.k_Sum_Writes.2⟩
  have iO_Times : OwnI K (c 4) := ⟨T.o_Times⟩
  have iA_Times_row : NoaI K (c 4) "row" := ⟨T.a_Times_row⟩
  have iA_Times_carries : NoaI K (c 4) "carries" := ⟨T.a_Times_carries⟩
  have iK_Times_Writes : KitI K (c 4) (c 1) false := ⟨T.q_Writes.kit T.k_Times_Writes.1 T.k_Times_Writes.2⟩
  refine T.f_common.ok sc_common (fun vs H Q E h => ?_) (fun f cdv A outer s H vs Q E hr h => ?_)
  · obtain ⟨x, y, rfl, h0, h1, q⟩ := h
    rfl
  · obtain ⟨x, y, rfl, h0, h1, q⟩ := h
    refine ⟨_, (pss_cons (ps_while PassesOwn.never (pt_cmpR op_gt (pv 1) pe_int (nomark _)) (pss_one (ps_par (i := 0) (j := 1) rfl sc_common.nd rfl rfl (by decide) rfl rfl (pa_cons (pv 1) (pa_cons (pe_op op_mod (pv 0) (pv 1)) pa_nil)) rfl)))
      (pss_one (ps_ret (pv 0)))), ?_⟩
    walk_at "go"
    refine whM (fun m σ H' => ∃ x' y' : Int, σ = [some (.int x'), some (.int y')] ∧ 0 ≤ x' ∧ 0 ≤ y' ∧ Int.gcd x' y' = Int.gcd x y ∧ m = y'.toNat ∧ H' = H) ⟨_, x, y, rfl, h0, h1, rfl, rfl, rfl⟩ ?_
    rintro m σ H' ⟨x', y', rfl, a0, a1, e, rfl, rfl⟩
    walk_at "go"
    refine rd_D (fun hy => ?_) (fun hy => ?_)
    · refine ⟨_, fun _ _ h => h, ?_⟩
      walk_at "go"
      have := Int.emod_nonneg x' (show y' ≠ 0 by omega)
      have := Int.emod_lt_of_pos x' hy
      refine ⟨_, ?_, y', x' % y', rfl, by omega, by omega, ?_, rfl, rfl⟩
      · omega
      · rw [← e, Int.gcd_comm x' y']
        exact gcd_mod a0 a1
    · walk_at "go"
      have e0 : y' = 0 := by omega
      subst e0
      have : (Int.gcd x y : Int) = x' := by rw [← e]; simp; omega
      rw [← this]
      exact q
theorem sc_check_base : FnScope ["base", "one"] ["base"] (defScope s_check_base) := ⟨rfl, rfl, rfl, by decide +kernel, rfl, by decide +kernel, by decide +kernel⟩
def sp_check_base : Sp := fun vs H Q _ => ∃ t a b, vs = [.ref t] ∧ OB H t (.tup [.int a, .int b]) ∧ GB a b ∧ ∀ H', SM H' H → Q .non H'
theorem go_check_base {t a b H Q E} [o : OB H t (.tup [.int a, .int b])] (g : GB a b) (q : ∀ H', SM H' H → Q .non H') : sp_check_base [.ref t] H Q E := ⟨t, a, b, rfl, o, g, q⟩
theorem ok_check_base (T : Top K mg c) : Fn P w K mg base "check_base" ["base"] 2 sp_check_base := by
  have F_common := ok_common (P := P) (w := w) (base := base) T
  have F_is_whole := ok_is_whole (P := P) (w := w) (base := base) T
  have iO_Writes : OwnI K (c 1) := ⟨T.o_Writes⟩
  have iA_Writes_number : NoaI K (c 1) "number" := ⟨T.a_Writes_number⟩
  have iK_Writes_Writes : KitI K (c 1) (c 1) true := ⟨T.q_Writes.kit T.k_Writes_Writes.1 T.k_Writes_Writes.2⟩
  have iO_Breaks : OwnI K (c 2) := ⟨T.o_Breaks⟩
  have iA_Breaks_place : NoaI K (c 2) "place" := ⟨T.a_Breaks_place⟩
  have iA_Breaks_left : NoaI K (c 2) "left" := ⟨T.a_Breaks_left⟩
  have iK_Breaks_Writes : KitI K (c 2) (c 1) false := ⟨T.q_Writes.kit T.k_Breaks_Writes.1 T.k_Breaks_Writes.2⟩
  have iO_Sum : OwnI K (c 3) := ⟨T.o_Sum⟩
  have iA_Sum_row : NoaI K (c 3) "row" := ⟨T.a_Sum_row⟩
  have iA_Sum_carries : NoaI K (c 3) "carries" := ⟨T.a_Sum_carries⟩
  have iK_Sum_Writes : KitI K (c 3) (c 1) false := ⟨T.q_Writes.kit T.k_Sum_Writes.1 T.k_Sum_Writes.2⟩
  have iO_Times : OwnI K (c 4) := ⟨T.o_Times⟩
  have iA_Times_row : NoaI K (c 4) "row" := ⟨T.a_Times_row⟩
  have iA_Times_carries : NoaI K (c 4) "carries" := ⟨T.a_Times_carries⟩
  have iK_Times_Writes : KitI K (c 4) (c 1) false := ⟨T.q_Writes.kit T.k_Times_Writes.1 T.k_Times_Writes.2⟩
  refine T.f_check_base.ok sc_check_base (fun vs H Q E h => ?_) (fun f cdv A outer s H vs Q E hr h => ?_)
  · obtain ⟨t, a, b, rfl, o, g, q⟩ := h
    rfl
  · obtain ⟨t, a, b, rfl, o, g, q⟩ := h
    refine ⟨_, (pss_cons (ps_if (PW.pt (pw_or (pt_not (pt_val (pe_callB (cr_isiB (K := K) rfl) rfl T.n_isinstance (by decide +kernel) (pa_cons (pv 0) (pa_cons (pe_bltn (v := .ty "tuple") (u := .type "tuple") rfl T.n_tuple (by decide +kernel) rfl) pa_nil))))) (pw_or (pt_cmpR op_ne (pe_callB cr_lenTB rfl T.n_len (by decide +kernel) (pa_cons (pv 0) pa_nil)) pe_int (nomark _)) (pw_or1 (pt_not (pt_val (pe_callB (cr_allB rfl) rfl T.n_all (by decide +kernel) (pa_cons (pe_lc (own := [("one", 1)]) (g := gName 1) (tt := tYes) rfl sc_check_base.nd (pi_tupK (K := K) rfl (pv 0)) (blkOk_by (own := [("one", 1)]) (N := ["base", "one"]) (sc := defScope s_check_base) (by decide +kernel)) (fun _ _ _ _ _ => (pg_name (i := 1) sc_check_base.nd rfl (Or.inl rfl))) (fun _ _ _ _ _ => pts_nil) (fun _ _ _ _ _ => (pe_fn F_is_whole hr rfl (pa_cons (pv 1) pa_nil)))) pa_nil)))))))) (pss_one ps_never) pss_nil)
      (pss_one (ps_if (PW.pt (pw_or (pt_not (pt_chain op_le op_le pe_int (pe_ix ix_tupB (pv 0) pe_int (fun _ _ => rfl)) (pe_glob (v := .int 60) rfl (T.c_GREATEST).choose_spec ⟨_, rfl⟩))) (pw_or (pt_not (pt_chain op_le op_lt pe_int (pe_ix ix_tupB (pv 0) pe_int (fun _ _ => rfl)) (pe_ix ix_tupB (pv 0) pe_int (fun _ _ => rfl)))) (pw_or1 (pt_cmpR op_gt (pe_fn F_common hr rfl (pa_cons (pe_ix ix_tupB (pv 0) pe_int (fun _ _ => rfl)) (pa_cons (pe_ix ix_tupB (pv 0) pe_int (fun _ _ => rfl)) pa_nil))) pe_int (nomark _)))))) (pss_one ps_never) pss_nil))), ?_⟩
    have gg := g.ok
    walk_at "go"
    refine lcMap [a, b] (fun _ => .bl true) (it_tup (xs := [.int a, .int b])) rfl (by simp) (fun H' s => inferInstance) ?_ ?_
    · rintro i x v H' H'' hi s ⟨rfl, hv⟩ Nt Nf ht
      have e : v = .int x := by
        rw [show ([V.int a, V.int b] : List V) = [a, b].map V.int from rfl, List.getElem?_map, hi] at hv
        exact (Option.some.inj hv).symm
      subst e
      walk_at "go"
      refine go_is_whole ?_
      exact ht _ smx
    · intro D H1 s1 f1 o1
      walk_at "go"
      have o2 : OB H1 D (.lst ([true, true].map V.bl)) := o1
      walk_at "go"
      refine go_common (x := a) (y := b) (by omega) (by omega) ?_
      walk_at "go"
      refine rd_F (decide_eq_false ?_) ?_
      · rw [g.g]; omega
      walk_at "go"
      exact q _ smx
theorem sc_check_number : FnScope ["number", "least"] ["number", "least"] (defScope s_check_number) := ⟨rfl, rfl, rfl, by decide +kernel, rfl, by decide +kernel, by decide +kernel⟩
def sp_check_number : Sp := fun vs H Q _ => ∃ n l : Int, vs = [.int n, .int l] ∧ l ≤ n ∧ Q .non H
theorem go_check_number {n l : Int} {H Q E} (h : l ≤ n) (q : Q .non H) : sp_check_number [.int n, .int l] H Q E := ⟨n, l, rfl, h, q⟩
theorem ok_check_number (T : Top K mg c) : Fn P w K mg base "check_number" ["number", "least"] 2 sp_check_number := by
  have F_is_whole := ok_is_whole (P := P) (w := w) (base := base) T
  have iO_Writes : OwnI K (c 1) := ⟨T.o_Writes⟩
  have iA_Writes_number : NoaI K (c 1) "number" := ⟨T.a_Writes_number⟩
  have iK_Writes_Writes : KitI K (c 1) (c 1) true := ⟨T.q_Writes.kit T.k_Writes_Writes.1 T.k_Writes_Writes.2⟩
  have iO_Breaks : OwnI K (c 2) := ⟨T.o_Breaks⟩
  have iA_Breaks_place : NoaI K (c 2) "place" := ⟨T.a_Breaks_place⟩
  have iA_Breaks_left : NoaI K (c 2) "left" := ⟨T.a_Breaks_left⟩
  have iK_Breaks_Writes : KitI K (c 2) (c 1) false := ⟨T.q_Writes.kit T.k_Breaks_Writes.1 T.k_Breaks_Writes.2⟩
  have iO_Sum : OwnI K (c 3) := ⟨T.o_Sum⟩
  have iA_Sum_row : NoaI K (c 3) "row" := ⟨T.a_Sum_row⟩
  have iA_Sum_carries : NoaI K (c 3) "carries" := ⟨T.a_Sum_carries⟩
  have iK_Sum_Writes : KitI K (c 3) (c 1) false := ⟨T.q_Writes.kit T.k_Sum_Writes.1 T.k_Sum_Writes.2⟩
  have iO_Times : OwnI K (c 4) := ⟨T.o_Times⟩
  have iA_Times_row : NoaI K (c 4) "row" := ⟨T.a_Times_row⟩
  have iA_Times_carries : NoaI K (c 4) "carries" := ⟨T.a_Times_carries⟩
  have iK_Times_Writes : KitI K (c 4) (c 1) false := ⟨T.q_Writes.kit T.k_Times_Writes.1 T.k_Times_Writes.2⟩
  refine T.f_check_number.ok sc_check_number (fun vs H Q E h => ?_) (fun f cdv A outer s H vs Q E hr h => ?_)
  · obtain ⟨n, l, rfl, h, q⟩ := h
    rfl
  · obtain ⟨n, l, rfl, h, q⟩ := h
    refine ⟨_, (pss_one (ps_if (PW.pt (pw_or (pt_not (pt_val (pe_fn F_is_whole hr rfl (pa_cons (pv 0) pa_nil)))) (pw_or1 (pt_cmpR op_lt (pv 0) (pv 1) (nomark _))))) (pss_one ps_never) pss_nil)), ?_⟩
    walk_at "go"
    refine go_is_whole ?_
    walk_at "go"
    exact q
theorem sc_check_count : FnScope ["count", "least", "most"] ["count", "least", "most"] (defScope s_check_count) := ⟨rfl, rfl, rfl, by decide +kernel, rfl, by decide +kernel, by decide +kernel⟩
def sp_check_count : Sp := fun vs H Q _ => ∃ n l m : Int, vs = [.int n, .int l, .int m] ∧ l ≤ n ∧ n ≤ m ∧ Q .non H
theorem go_check_count {n l m : Int} {H Q E} (h : l ≤ n) (h2 : n ≤ m) (q : Q .non H) : sp_check_count [.int n, .int l, .int m] H Q E := ⟨n, l, m, rfl, h, h2, q⟩
theorem ok_check_count (T : Top K mg c) : Fn P w K mg base "check_count" ["count", "least", "most"] 2 sp_check_count := by
  have F_is_whole := ok_is_whole (P := P) (w := w) (base := base) T
  have iO_Writes : OwnI K (c 1) := ⟨T.o_Writes⟩
  have iA_Writes_number : NoaI K (c 1) "number" := ⟨T.a_Writes_number⟩
  have iK_Writes_Writes : KitI K (c 1) (c 1) true := ⟨T.q_Writes.kit T.k_Writes_Writes.1 T.k_Writes_Writes.2⟩
  have iO_Breaks : OwnI K (c 2) := ⟨T.o_Breaks⟩
  have iA_Breaks_place : NoaI K (c 2) "place" := ⟨T.a_Breaks_place⟩
  have iA_Breaks_left : NoaI K (c 2) "left" := ⟨T.a_Breaks_left⟩
  have iK_Breaks_Writes : KitI K (c 2) (c 1) false := ⟨T.q_Writes.kit T.k_Breaks_Writes.1 T.k_Breaks_Writes.2⟩
  have iO_Sum : OwnI K (c 3) := ⟨T.o_Sum⟩
  have iA_Sum_row : NoaI K (c 3) "row" := ⟨T.a_Sum_row⟩
  have iA_Sum_carries : NoaI K (c 3) "carries" := ⟨T.a_Sum_carries⟩
  have iK_Sum_Writes : KitI K (c 3) (c 1) false := ⟨T.q_Writes.kit T.k_Sum_Writes.1 T.k_Sum_Writes.2⟩
  have iO_Times : OwnI K (c 4) := ⟨T.o_Times⟩
  have iA_Times_row : NoaI K (c 4) "row" := ⟨T.a_Times_row⟩
  have iA_Times_carries : NoaI K (c 4) "carries" := ⟨T.a_Times_carries⟩
  have iK_Times_Writes : KitI K (c 4) (c 1) false := ⟨T.q_Writes.kit T.k_Times_Writes.1 T.k_Times_Writes.2⟩
  refine T.f_check_count.ok sc_check_count (fun vs H Q E h => ?_) (fun f cdv A outer s H vs Q E hr h => ?_)
  · obtain ⟨n, l, m, rfl, h1, h2, q⟩ := h
    rfl
  · obtain ⟨n, l, m, rfl, h1, h2, q⟩ := h
    refine ⟨_, (pss_one (ps_if (PW.pt (pw_or (pt_not (pt_val (pe_fn F_is_whole hr rfl (pa_cons (pv 0) pa_nil)))) (pw_or1 (pt_not (pt_chain op_le op_le (pv 1) (pv 0) (pv 2)))))) (pss_one ps_never) pss_nil)), ?_⟩
    walk_at "go"
    refine go_is_whole ?_
    walk_at "go"
    exact q
theorem sc_parted : FnScope ["base", "number"] ["base", "number"] (defScope s_parted) := ⟨rfl, rfl, rfl, by decide +kernel, rfl, by decide +kernel, by decide +kernel⟩
def sp_parted : Sp := fun vs H Q _ => ∃ t a b n, vs = [.ref t, .int n] ∧ OB H t (.tup [.int a, .int b]) ∧ GB a b ∧ Bd n ∧ kNew Q (.tup [.int (b * n / a), .int (b * n % a)]) H
theorem go_parted {t a b n H Q E} [o : OB H t (.tup [.int a, .int b])] (g : GB a b) (h : Bd n) (q : kNew Q (.tup [.int (b * n / a), .int (b * n % a)]) H) : sp_parted [.ref t, .int n] H Q E := ⟨t, a, b, n, rfl, o, g, h, q⟩
theorem ok_parted (T : Top K mg c) : Fn P w K mg base "parted" ["base", "number"] 1 sp_parted := by
  have iO_Writes : OwnI K (c 1) := ⟨T.o_Writes⟩
  have iA_Writes_number : NoaI K (c 1) "number" := ⟨T.a_Writes_number⟩
  have iK_Writes_Writes : KitI K (c 1) (c 1) true := ⟨T.q_Writes.kit T.k_Writes_Writes.1 T.k_Writes_Writes.2⟩
  have iO_Breaks : OwnI K (c 2) := ⟨T.o_Breaks⟩
  have iA_Breaks_place : NoaI K (c 2) "place" := ⟨T.a_Breaks_place⟩
  have iA_Breaks_left : NoaI K (c 2) "left" := ⟨T.a_Breaks_left⟩
  have iK_Breaks_Writes : KitI K (c 2) (c 1) false := ⟨T.q_Writes.kit T.k_Breaks_Writes.1 T.k_Breaks_Writes.2⟩
  have iO_Sum : OwnI K (c 3) := ⟨T.o_Sum⟩
  have iA_Sum_row : NoaI K (c 3) "row" := ⟨T.a_Sum_row⟩
  have iA_Sum_carries : NoaI K (c 3) "carries" := ⟨T.a_Sum_carries⟩
  have iK_Sum_Writes : KitI K (c 3) (c 1) false := ⟨T.q_Writes.kit T.k_Sum_Writes.1 T.k_Sum_Writes.2⟩
  have iO_Times : OwnI K (c 4) := ⟨T.o_Times⟩
  have iA_Times_row : NoaI K (c 4) "row" := ⟨T.a_Times_row⟩
  have iA_Times_carries : NoaI K (c 4) "carries" := ⟨T.a_Times_carries⟩
  have iK_Times_Writes : KitI K (c 4) (c 1) false := ⟨T.q_Writes.kit T.k_Times_Writes.1 T.k_Times_Writes.2⟩
  refine T.f_parted.ok sc_parted (fun vs H Q E h => ?_) (fun f cdv A outer s H vs Q E hr h => ?_)
  · obtain ⟨t, a, b, n, rfl, o, g, hn, q⟩ := h
    rfl
  · obtain ⟨t, a, b, n, rfl, o, g, hn, q⟩ := h
    refine ⟨_, (pss_one (ps_ret (pe_tupB (pa_cons (pe_op op_fdivW (pe_op op_mulW (pe_ix ix_tupB (pv 0) pe_int (fun _ _ => rfl)) (pv 1)) (pe_ix ix_tupB (pv 0) pe_int (fun _ _ => rfl))) (pa_cons (pe_op op_mod (pe_op op_mulW (pe_ix ix_tupB (pv 0) pe_int (fun _ _ => rfl)) (pv 1)) (pe_ix ix_tupB (pv 0) pe_int (fun _ _ => rfl))) pa_nil))))), ?_⟩
    have gg := g.ok
    walk_at "go"
    exact kret q
theorem sc_are_figures : FnScope ["base", "thing", "one"] ["base", "thing"] (defScope s_are_figures) := ⟨rfl, rfl, rfl, by decide +kernel, rfl, by decide +kernel, by decide +kernel⟩
def sp_are_figures : Sp := fun vs H Q _ => ∃ t p a b ns, vs = [.ref t, .ref p] ∧ OB H t (.tup [.int a, .int b]) ∧ OB H p (.lst (ns.map V.int)) ∧ ns.length ≤ 100000 ∧ ∀ H', SM H' H → Q (.bl (figs a ns)) H'
theorem go_are_figures {t p a b xs ns H Q E} [o : OB H t (.tup [.int a, .int b])] [o2 : OB H p (.lst xs)] [e : ILs xs ns] (hl : ns.length ≤ 100000) (q : ∀ H', SM H' H → Q (.bl (figs a ns)) H') : sp_are_figures [.ref t, .ref p] H Q E := ⟨t, p, a, b, ns, rfl, o, ob_ints e o2, hl, q⟩
theorem ok_are_figures (T : Top K mg c) : Fn P w K mg base "are_figures" ["base", "thing"] 2 sp_are_figures := by
  have F_is_whole := ok_is_whole (P := P) (w := w) (base := base) T
  have iO_Writes : OwnI K (c 1) := ⟨T.o_Writes⟩
  have iA_Writes_number : NoaI K (c 1) "number" := ⟨T.a_Writes_number⟩
  have iK_Writes_Writes : KitI K (c 1) (c 1) true := ⟨T.q_Writes.kit T.k_Writes_Writes.1 T.k_Writes_Writes.2⟩
  have iO_Breaks : OwnI K (c 2) := ⟨T.o_Breaks⟩
  have iA_Breaks_place : NoaI K (c 2) "place" := ⟨T.a_Breaks_place⟩
  have iA_Breaks_left : NoaI K (c 2) "left" := ⟨T.a_Breaks_left⟩
  have iK_Breaks_Writes : KitI K (c 2) (c 1) false := ⟨T.q_Writes.kit T.k_Breaks_Writes.1 T.k_Breaks_Writes.2⟩
  have iO_Sum : OwnI K (c 3) := ⟨T.o_Sum⟩
  have iA_Sum_row : NoaI K (c 3) "row" := ⟨T.a_Sum_row⟩
  have iA_Sum_carries : NoaI K (c 3) "carries" := ⟨T.a_Sum_carries⟩
  have iK_Sum_Writes : KitI K (c 3) (c 1) false := ⟨T.q_Writes.kit T.k_Sum_Writes.1 T.k_Sum_Writes.2⟩
  have iO_Times : OwnI K (c 4) := ⟨T.o_Times⟩
  have iA_Times_row : NoaI K (c 4) "row" := ⟨T.a_Times_row⟩
  have iA_Times_carries : NoaI K (c 4) "carries" := ⟨T.a_Times_carries⟩
  have iK_Times_Writes : KitI K (c 4) (c 1) false := ⟨T.q_Writes.kit T.k_Times_Writes.1 T.k_Times_Writes.2⟩
  refine T.f_are_figures.ok sc_are_figures (fun vs H Q E h => ?_) (fun f cdv A outer s H vs Q E hr h => ?_)
  · obtain ⟨t, p, a, b, ns, rfl, o, o2, hl, q⟩ := h
    rfl
  · obtain ⟨t, p, a, b, ns, rfl, o, o2, hl, q⟩ := h
    refine ⟨_, (pss_one (ps_ret (pe_and (pe_callB (cr_isiB (K := K) rfl) rfl T.n_isinstance (by decide +kernel) (pa_cons (pv 1) (pa_cons (pe_bltn (v := .ty "list") (u := .type "list") rfl T.n_list (by decide +kernel) rfl) pa_nil))) (pe_one (pe_callB (cr_allB rfl) rfl T.n_all (by decide +kernel) (pa_cons (pe_lc (own := [("one", 2)]) (g := gName 2) (tt := tYes) rfl sc_are_figures.nd (pi_listK (K := K) rfl (pv 1)) (blkOk_by (own := [("one", 2)]) (N := ["base", "thing", "one"]) (sc := defScope s_are_figures) (by decide +kernel)) (fun _ _ _ _ _ => (pg_name (i := 2) sc_are_figures.nd rfl (Or.inl rfl))) (fun _ _ _ _ _ => pts_nil) (fun _ _ _ _ _ => (pe_and (pe_fn F_is_whole hr rfl (pa_cons (pv 2) pa_nil)) (pe_one (pe_chain op_le op_lt pe_int (pv 2) (pe_ix ix_tupB (pv 0) pe_int (fun _ _ => rfl))))))) pa_nil)))))), ?_⟩
    walk_at "go"
    have hn : (ns.map V.int).length = ns.length := by simp
    refine lcMap ns (fun n => .bl (decide (0 ≤ n) && decide (n < a))) (it_list (xs := ns.map V.int)) hn hl (fun H' s => inferInstance) ?_ ?_
    · rintro i x v H' H'' hi s ⟨rfl, hv⟩ Nt Nf ht
      have e : v = .int x := by
        rw [List.getElem?_map, hi] at hv
        exact (Option.some.inj hv).symm
      subst e
      walk_at "go"
      refine go_is_whole ?_
      walk_at "go"
      refine rd_D (fun h0 => ?_) (fun h0 => ?_)
      · walk_at "go"
        have := ht H'' smx
        rw [decide_eq_true h0, Bool.true_and] at this
        exact this
      · walk_at "go"
        have := ht H'' smx
        rw [decide_eq_false h0, Bool.false_and] at this
        exact this
    · intro D H1 s1 f1 o1
      walk_at "go"
      have e : (ns.map fun n => (decide (0 ≤ n) && decide (n < a))).all id = figs a ns := by
        rw [List.all_map] <;> rfl
      rw [e]
      exact q _ smx
theorem sc_read : FnScope ["base", "row", "found", "place", "figure", "there"] ["base", "row"] (defScope s_read) := ⟨rfl, rfl, rfl, by decide +kernel, rfl, by decide +kernel, by decide +kernel⟩
def sp_read : Sp := fun vs H Q _ => ∃ t p a b ns, vs = [.ref t, .ref p] ∧ OB H t (.tup [.int a, .int b]) ∧ 1 ≤ a ∧ a ≤ 60 ∧ 1 ≤ b ∧ b ≤ 60 ∧ OB H p (.lst (ns.map V.int)) ∧ ns.length ≤ 3000 ∧ (∀ x ∈ ns, x.natAbs < 2 ^ 64) ∧ kNew Q (.tup [.int (readF a b 0 0 ns).1, .int (readF a b 0 0 ns).2]) H
theorem go_read {t p a b xs ns H Q E} [o : OB H t (.tup [.int a, .int b])] [o2 : OB H p (.lst xs)] [e : ILs xs ns] (a1 : 1 ≤ a) (a6 : a ≤ 60) (b1 : 1 ≤ b) (b6 : b ≤ 60) (hl : ns.length ≤ 3000) (hx : ∀ x ∈ ns, x.natAbs < 2 ^ 64) (q : kNew Q (.tup [.int (readF a b 0 0 ns).1, .int (readF a b 0 0 ns).2]) H) : sp_read [.ref t, .ref p] H Q E := ⟨t, p, a, b, ns, rfl, o, a1, a6, b1, b6, ob_ints e o2, hl, hx, q⟩
theorem ok_read (T : Top K mg c) : Fn P w K mg base "read" ["base", "row"] 1 sp_read := by
  have iO_Writes : OwnI K (c 1) := ⟨T.o_Writes⟩
  have iA_Writes_number : NoaI K (c 1) "number" := ⟨T.a_Writes_number⟩
  have iK_Writes_Writes : KitI K (c 1) (c 1) true := ⟨T.q_Writes.kit T.k_Writes_Writes.1 T.k_Writes_Writes.2⟩
  have iO_Breaks : OwnI K (c 2) := ⟨T.o_Breaks⟩
  have iA_Breaks_place : NoaI K (c 2) "place" := ⟨T.a_Breaks_place⟩
  have iA_Breaks_left : NoaI K (c 2) "left" := ⟨T.a_Breaks_left⟩
  have iK_Breaks_Writes : KitI K (c 2) (c 1) false := ⟨T.q_Writes.kit T.k_Breaks_Writes.1 T.k_Breaks_Writes.2⟩
  have iO_Sum : OwnI K (c 3) := ⟨T.o_Sum⟩
  have iA_Sum_row : NoaI K (c 3) "row" := ⟨T.a_Sum_row⟩
  have iA_Sum_carries : NoaI K (c 3) "carries" := ⟨T.a_Sum_carries⟩
  have iK_Sum_Writes : KitI K (c 3) (c 1) false := ⟨T.q_Writes.kit T.k_Sum_Writes.1 T.k_Sum_Writes.2⟩
  have iO_Times : OwnI K (c 4) := ⟨T.o_Times⟩
  have iA_Times_row : NoaI K (c 4) "row" := ⟨T.a_Times_row⟩
  have iA_Times_carries : NoaI K (c 4) "carries" := ⟨T.a_Times_carries⟩
  have iK_Times_Writes : KitI K (c 4) (c 1) false := ⟨T.q_Writes.kit T.k_Times_Writes.1 T.k_Times_Writes.2⟩
  refine T.f_read.ok sc_read (fun vs H Q E h => ?_) (fun f cdv A outer s H vs Q E hr h => ?_)
  · obtain ⟨t, p, a, b, ns, rfl, o, a1, a6, b1, b6, o2, hl, hx, q⟩ := h
    rfl
  · obtain ⟨t, p, a, b, ns, rfl, o, a1, a6, b1, b6, o2, hl, hx, q⟩ := h
    refine ⟨_, (pss_cons (ps_set (i := 2) sc_read.nd rfl (Or.inl rfl) pe_int)
      (pss_cons (ps_for PassesOwn.never rfl (pi_enum rfl T.n_enumerate (pa_cons (pv 1) pa_nil)) (pg_tupB (n := 2) rfl (pgs_cons (pg_name (i := 3) sc_read.nd rfl (Or.inl rfl)) (pgs_cons (pg_name (i := 4) sc_read.nd rfl (Or.inl rfl)) pgs_nil)))
      (pss_cons (ps_set (i := 5) sc_read.nd rfl (Or.inl rfl) (pe_op op_add (pe_op op_mulW (pe_ix ix_tupB (pv 0) pe_int (fun _ _ => rfl)) (pv 2)) (pv 4)))
      (pss_cons (ps_if (pt_cmpR op_gt (pe_op op_mod (pv 5) (pe_ix ix_tupB (pv 0) pe_int (fun _ _ => rfl))) pe_int (nomark _)) (pss_one (ps_ret (pe_tupB (pa_cons (pe_op op_mod (pv 5) (pe_ix ix_tupB (pv 0) pe_int (fun _ _ => rfl))) (pa_cons (pv 3) pa_nil))))) pss_nil)
      (pss_one (ps_set (i := 2) sc_read.nd rfl (Or.inl rfl) (pe_op op_fdivW (pv 5) (pe_ix ix_tupB (pv 0) pe_int (fun _ _ => rfl))))))))
      (pss_one (ps_ret (pe_tupB (pa_cons (pv 2) (pa_cons (pe_un un_neg pe_int) pa_nil))))))), ?_⟩
    walk_at "go"
    refine forM (it_enum (xs := ns.map V.int)) (fun i σ H' => ∃ (x : Int) (v1 v2 v3 : Option V), σ = [some (.ref t), some (.ref p), some (.int x), v1, v2, v3] ∧ SM H' H ∧ i ≤ 3000 ∧ x.natAbs ≤ 2 ^ (64 + 8 * i) ∧ readF a b 0 0 ns = readF a b x (i : Int) (ns.drop i))
      ⟨0, _, _, _, rfl, smx, by omega, by omega, rfl⟩ (fun _ _ _ ⟨_, _, _, _, _, _, _⟩ => inferInstance) ?_ ?_
    · rintro i v σ H4 H5 hi ⟨x, v1, v2, v3, rfl, s4, i3, xb, hz⟩ ⟨T, y, rfl, hy, s5, f5, o5⟩
      rw [List.length_map] at hi
      rw [List.getElem?_map, List.getElem?_eq_getElem hi] at hy
      have ey : y = .int ns[i] := (Option.some.inj hy).symm
      subst ey
      rw [List.drop_eq_getElem_cons hi] at hz
      rw [readF_cons] at hz
      have hf := hx ns[i] (List.getElem_mem hi)
      generalize ns[i] = f at hz hf o5 ⊢
      have pl : (2 : Nat) ^ (64 + 8 * i) ≤ 2 ^ 30000 := Nat.pow_le_pow_right (by decide) (by omega)
      have bx : Bd x := bd_lt (k := 30001) (by omega)
      have tb : (a * x + f).natAbs ≤ 2 ^ (64 + 8 * (i + 1)) := by
        have e1 : (a * x).natAbs ≤ 60 * x.natAbs := by rw [Int.natAbs_mul]; exact Nat.mul_le_mul_right _ (by omega)
        have e2 : (a * x + f).natAbs ≤ (a * x).natAbs + f.natAbs := Int.natAbs_add_le _ _
        have e3 : (2 : Nat) ^ (64 + 8 * (i + 1)) = 256 * 2 ^ (64 + 8 * i) := by rw [show 64 + 8 * (i + 1) = (64 + 8 * i) + 8 by omega, Nat.pow_add, Nat.mul_comm]
        have e4 : (2 : Nat) ^ 64 ≤ 2 ^ (64 + 8 * i) := Nat.pow_le_pow_right (by decide) (by omega)
        omega
      walk_at "go"
      refine rd_D (fun hne => ?_) (fun hne => ?_)
      · rw [if_neg (by have := Int.emod_nonneg (a * x + f) (show b ≠ 0 by omega); omega)] at hz
        walk_at "go"
        rw [hz] at q
        exact kret q
      · rw [if_pos (by have := Int.emod_nonneg (a * x + f) (show b ≠ 0 by omega); omega)] at hz
        walk_at "go"
        refine ⟨_, _, _, _, rfl, smx, by omega, ?_, by rw [hz] <;> rfl⟩
        have : ((a * x + f) / b).natAbs ≤ (a * x + f).natAbs := div_abs b1
        omega
    · rintro σ H4 ⟨x, v1, v2, v3, rfl, s4, i3, xb, hz⟩
      rw [List.length_map, List.drop_length] at hz
      walk_at "go"
      rw [hz] at q
      exact kret q
theorem sc_plain : FnScope ["row", "at"] ["row"] (defScope s_plain) := ⟨rfl, rfl, rfl, by decide +kernel, rfl, by decide +kernel, by decide +kernel⟩
def sp_plain : Sp := fun vs H Q _ => ∃ p ns, vs = [.ref p] ∧ OB H p (.lst (ns.map V.int)) ∧ ns.length ≤ 50000 ∧ kNew Q (.lst ((plainF ns).map V.int)) H
theorem go_plain {p xs ns H Q E} [o2 : OB H p (.lst xs)] [e : ILs xs ns] (hl : ns.length ≤ 50000) (q : kNew Q (.lst ((plainF ns).map V.int)) H) : sp_plain [.ref p] H Q E := ⟨p, ns, rfl, ob_ints e o2, hl, q⟩
theorem ok_plain (T : Top K mg c) : Fn P w K mg base "plain" ["row"] 1 sp_plain := by
  have iO_Writes : OwnI K (c 1) := ⟨T.o_Writes⟩
  have iA_Writes_number : NoaI K (c 1) "number" := ⟨T.a_Writes_number⟩
  have iK_Writes_Writes : KitI K (c 1) (c 1) true := ⟨T.q_Writes.kit T.k_Writes_Writes.1 T.k_Writes_Writes.2⟩
  have iO_Breaks : OwnI K (c 2) := ⟨T.o_Breaks⟩
  have iA_Breaks_place : NoaI K (c 2) "place" := ⟨T.a_Breaks_place⟩
  have iA_Breaks_left : NoaI K (c 2) "left" := ⟨T.a_Breaks_left⟩
  have iK_Breaks_Writes : KitI K (c 2) (c 1) false := ⟨T.q_Writes.kit T.k_Breaks_Writes.1 T.k_Breaks_Writes.2⟩
  have iO_Sum : OwnI K (c 3) := ⟨T.o_Sum⟩
  have iA_Sum_row : NoaI K (c 3) "row" := ⟨T.a_Sum_row⟩
  have iA_Sum_carries : NoaI K (c 3) "carries" := ⟨T.a_Sum_carries⟩
  have iK_Sum_Writes : KitI K (c 3) (c 1) false := ⟨T.q_Writes.kit T.k_Sum_Writes.1 T.k_Sum_Writes.2⟩
  have iO_Times : OwnI K (c 4) := ⟨T.o_Times⟩
  have iA_Times_row : NoaI K (c 4) "row" := ⟨T.a_Times_row⟩
  have iA_Times_carries : NoaI K (c 4) "carries" := ⟨T.a_Times_carries⟩
  have iK_Times_Writes : KitI K (c 4) (c 1) false := ⟨T.q_Writes.kit T.k_Times_Writes.1 T.k_Times_Writes.2⟩
  refine T.f_plain.ok sc_plain (fun vs H Q E h => ?_) (fun f cdv A outer s H vs Q E hr h => ?_)
  · obtain ⟨p, ns, rfl, o2, hl, q⟩ := h
    rfl
  · obtain ⟨p, ns, rfl, o2, hl, q⟩ := h
    refine ⟨_, (pss_cons (ps_set (i := 1) sc_plain.nd rfl (Or.inl rfl) pe_int)
      (pss_cons (ps_while PassesOwn.never (PW.pt (pw_and (pt_cmpR op_lt (pv 1) (pe_callB cr_lenB rfl T.n_len (by decide +kernel) (pa_cons (pv 0) pa_nil)) (nomark _)) (pw_and1 (pt_cmpR op_eq (pe_ix ix_listB (pv 0) (pv 1) (fun _ _ => rfl)) pe_int (nomark _))))) (pss_one (ps_aug (i := 1) sc_plain.nd rfl (Or.inl rfl) pe_int ip_add)))
      (pss_one (ps_ret (pe_slice sl_listB (pv 0) (po_some (pv 1)) po_none))))), ?_⟩
    walk_at "go"
    refine whM (fun m σ H' => ∃ i : Nat, σ = [some (.ref p), some (.int (i : Int))] ∧ i ≤ ns.length ∧ plainF ns = plainF (ns.drop i) ∧ SM H' H ∧ m = ns.length - i) ⟨_, 0, rfl, by omega, rfl, smx, rfl⟩ ?_
    rintro m σ H' ⟨i, rfl, hi, hp, s, rfl⟩
    have fin : plainF (ns.drop i) = ns.drop i → tRet (tSl rSlB (tVar 0) (tPart (tVar 1)) tNoPart) (Ends.mk (fun _ H' => Q V.non H') Q (fun _ _ => False) (fun _ _ => False)) [some (.ref p), some (.int (i : Int))] H' := by
      intro e
      walk_at "go"
      rename_i p5 H5 s5 f5 o5
      have o5' : OB H5 p5 (.lst ((plainF ns).map V.int)) := by
        rw [cut_map, cut_from] at o5
        rw [hp, e]
        exact o5
      exact kret q
    walk_at "go"
    refine rd_D (fun h => ?_) (fun h => ?_)
    · walk_at "go"
      refine rd_ixLI (by omega) (by omega) ?_
      walk_at "go"
      have g1 : i < ns.length := by omega
      rw [Int.toNat_natCast, List.getD_eq_getElem?_getD, List.getElem?_eq_getElem g1, Option.getD_some]
      have hd := List.drop_eq_getElem_cons g1
      refine rd_D (fun h2 => ?_) (fun h2 => ?_)
      · refine ⟨_, fun _ _ h => h, ?_⟩
        walk_at "go"
        refine ⟨_, ?_, i + 1, rfl, by omega, ?_, smx, rfl⟩
        · omega
        · rw [hp, hd, h2]
          rfl
      · refine fin ?_
        rw [hd]
        unfold plainF
        rw [if_neg h2]
    · refine rd_F rfl ?_
      refine fin ?_
      rw [List.drop_of_length_le (by omega)]
      rfl
theorem sc_carried : FnScope ["base", "sums", "row", "carries", "place", "figure", "total"] ["base", "sums", "row", "carries"] (defScope s_carried) := ⟨rfl, rfl, rfl, by decide +kernel, rfl, by decide +kernel, by decide +kernel⟩
def sp_carried : Sp := fun vs H Q _ => ∃ (t p r u : Addr) (a b N : Int) (ns rs cs : List Int), vs = [.ref t, .ref p, .ref r, .ref u] ∧ OB H t (.tup [.int a, .int b]) ∧ GB a b ∧ OB H p (.lst (ns.map V.int)) ∧ OB H r (.lst (rs.map V.int)) ∧ OB H u (.lst (cs.map V.int)) ∧ Rep a b ns N ∧ ns.length ≤ 3000 ∧ rs.length ≤ 50000 ∧ cs.length ≤ 50000 ∧ (∀ x ∈ ns, 0 ≤ x ∧ x ≤ 10 ^ 6) ∧
  ∀ H', SM H' H → Q (.bl (decide (rs = (carr a b ns 0).1.reverse ∧ cs = 0 :: (carr a b ns 0).2))) H'
theorem go_carried {t p r u : Addr} {a b N : Int} {xs ys zs : List V} {ns rs cs : List Int} {H : Hp} {Q : VK} {E : XK} [o : OB H t (.tup [.int a, .int b])] [o2 : OB H p (.lst xs)] [e : ILs xs ns] [o3 : OB H r (.lst ys)] [e3 : ILs ys rs] [o4 : OB H u (.lst zs)] [e4 : ILs zs cs] (g : GB a b) (hr : Rep a b ns N) (hl : ns.length ≤ 3000) (hl2 : rs.length ≤ 50000) (hl3 : cs.length ≤ 50000) (hx : ∀ x ∈ ns, 0 ≤ x ∧ x ≤ 10 ^ 6)
  (q : ∀ H', SM H' H → Q (.bl (decide (rs = (carr a b ns 0).1.reverse ∧ cs = 0 :: (carr a b ns 0).2))) H') : sp_carried [.ref t, .ref p, .ref r, .ref u] H Q E := ⟨t, p, r, u, a, b, N, ns, rs, cs, rfl, o, g, ob_ints e o2, ob_ints e3 o3, ob_ints e4 o4, hr, hl, hl2, hl3, hx, q⟩
theorem ok_carried (T : Top K mg c) : Fn P w K mg base "carried" ["base", "sums", "row", "carries"] 3 sp_carried := by
  have F_are_figures := ok_are_figures (P := P) (w := w) (base := base) T
  have iO_Writes : OwnI K (c 1) := ⟨T.o_Writes⟩
  have iA_Writes_number : NoaI K (c 1) "number" := ⟨T.a_Writes_number⟩
  have iK_Writes_Writes : KitI K (c 1) (c 1) true := ⟨T.q_Writes.kit T.k_Writes_Writes.1 T.k_Writes_Writes.2⟩
  have iO_Breaks : OwnI K (c 2) := ⟨T.o_Breaks⟩
  have iA_Breaks_place : NoaI K (c 2) "place" := ⟨T.a_Breaks_place⟩
  have iA_Breaks_left : NoaI K (c 2) "left" := ⟨T.a_Breaks_left⟩
  have iK_Breaks_Writes : KitI K (c 2) (c 1) false := ⟨T.q_Writes.kit T.k_Breaks_Writes.1 T.k_Breaks_Writes.2⟩
  have iO_Sum : OwnI K (c 3) := ⟨T.o_Sum⟩
  have iA_Sum_row : NoaI K (c 3) "row" := ⟨T.a_Sum_row⟩
  have iA_Sum_carries : NoaI K (c 3) "carries" := ⟨T.a_Sum_carries⟩
  have iK_Sum_Writes : KitI K (c 3) (c 1) false := ⟨T.q_Writes.kit T.k_Sum_Writes.1 T.k_Sum_Writes.2⟩
  have iO_Times : OwnI K (c 4) := ⟨T.o_Times⟩
  have iA_Times_row : NoaI K (c 4) "row" := ⟨T.a_Times_row⟩
  have iA_Times_carries : NoaI K (c 4) "carries" := ⟨T.a_Times_carries⟩
  have iK_Times_Writes : KitI K (c 4) (c 1) false := ⟨T.q_Writes.kit T.k_Times_Writes.1 T.k_Times_Writes.2⟩
  refine T.f_carried.ok sc_carried (fun vs H Q E h => ?_) (fun f cdv A outer s H vs Q E hr h => ?_)
  · obtain ⟨t, p, r, u, a, b, N, ns, rs, cs, rfl, o, g, o2, o3, o4, hrep, hl, hl2, hl3, hx, q⟩ := h
    rfl
  · obtain ⟨t, p, r, u, a, b, N, ns, rs, cs, rfl, o, g, o2, o3, o4, hrep, hl, hl2, hl3, hx, q⟩ := h
    refine ⟨_, (pss_cons (ps_if (PW.pt (pw_or (pt_not (pt_val (pe_fn F_are_figures hr rfl (pa_cons (pv 0) (pa_cons (pv 2) pa_nil))))) (pw_or (pt_cmpR (op_eqB (K := K) rfl hr.units) (pe_slice sl_listB (pv 2) po_none (po_some pe_int)) (pe_lstB (pa_cons pe_int pa_nil)) (nomark _)) (pw_or1 (pt_cmpR op_lt (pe_callB cr_lenB rfl T.n_len (by decide +kernel) (pa_cons (pv 2) pa_nil)) (pe_callB cr_lenB rfl T.n_len (by decide +kernel) (pa_cons (pv 1) pa_nil)) (nomark _)))))) (pss_one (ps_ret pe_bl)) pss_nil)
      (pss_cons (ps_if (PW.pt (pw_or (pt_cmpR op_ne (pe_callB cr_lenB rfl T.n_len (by decide +kernel) (pa_cons (pv 3) pa_nil)) (pe_op op_add (pe_callB cr_lenB rfl T.n_len (by decide +kernel) (pa_cons (pv 2) pa_nil)) pe_int) (nomark _)) (pw_or (pt_cmpR op_ne (pe_ix ix_listB (pv 3) pe_int (fun _ _ => rfl)) pe_int (nomark _)) (pw_or1 (pt_cmpR op_ne (pe_ix ix_listB (pv 3) (pe_un un_neg pe_int) (fun _ _ => rfl)) pe_int (nomark _)))))) (pss_one (ps_ret pe_bl)) pss_nil)
      (pss_cons (ps_for PassesOwn.never rfl (pi_enum rfl T.n_enumerate (pa_cons (pe_revB (pv 2)) pa_nil)) (pg_tupB (n := 2) rfl (pgs_cons (pg_name (i := 4) sc_carried.nd rfl (Or.inl rfl)) (pgs_cons (pg_name (i := 5) sc_carried.nd rfl (Or.inl rfl)) pgs_nil)))
      (pss_cons (ps_set (i := 6) sc_carried.nd rfl (Or.inl rfl) (pe_op op_add (pe_ifExp (pt_cmpR op_lt (pv 4) (pe_callB cr_lenB rfl T.n_len (by decide +kernel) (pa_cons (pv 1) pa_nil)) (nomark _)) (pe_ix ix_listB (pv 1) (pv 4) (fun _ _ => rfl)) pe_int) (pe_ix ix_listB (pv 3) (pv 4) (fun _ _ => rfl))))
      (pss_one (ps_if (PW.pt (pw_or (pt_cmpR op_ne (pe_op op_mod (pv 6) (pe_ix ix_tupB (pv 0) pe_int (fun _ _ => rfl))) (pv 5) (nomark _)) (pw_or1 (pt_cmpR op_ne (pe_ix ix_listB (pv 3) (pe_op op_add (pv 4) pe_int) (fun _ _ => rfl)) (pe_op op_mulW (pe_ix ix_tupB (pv 0) pe_int (fun _ _ => rfl)) (pe_op op_fdivW (pv 6) (pe_ix ix_tupB (pv 0) pe_int (fun _ _ => rfl)))) (nomark _))))) (pss_one (ps_ret pe_bl)) pss_nil))))
      (pss_one (ps_ret pe_bl))))), ?_⟩
    have gg := g.ok
    have q1 : CarB a b ns rs cs → ∀ H', SM H' H → Q (.bl true) H' := fun h H' s => by
      have := q H' s
      rw [decide_eq_true ((carB_iff g hrep).mp h)] at this
      exact this
    have q0 : ¬ CarB a b ns rs cs → ∀ H', SM H' H → Q (.bl false) H' := fun h H' s => by
      have := q H' s
      rw [decide_eq_false fun z => h ((carB_iff g hrep).mpr z)] at this
      exact this
    clear q
    walk_at "go"
    refine go_are_figures (by omega) fun H1 s1 => ?_
    walk_at "go"
    have hfg0 : figs a rs = false → Q (.bl false) H1 := fun hfg => q0 (fun z => by rw [z.1] at hfg; cases hfg) _ smx
    by_cases hfg : figs a rs = true
    rotate_left
    · rw [Bool.eq_false_iff.mpr hfg]
      walk_at "go"
      exact hfg0 (Bool.eq_false_iff.mpr hfg)
    rw [hfg]
    walk_at "go"
    rename_i p2 H2 s2 f2 o5 p3 H3 s3 f3 o6
    have e1 : cutI rs none (some 1) = rs.take 1 := cut_to rs 1
    rw [e1]
    refine rd_D (fun h => ?_) (fun h2 => ?_)
    · walk_at "go"
      exact q0 (fun z => z.2.1 h) _ smx
    walk_at "go"
    refine rd_D (fun h => ?_) (fun h3 => ?_)
    · walk_at "go"
      exact q0 (fun z => by have := z.2.2.1; omega) _ smx
    walk_at "go"
    refine rd_D (fun h => ?_) (fun h4 => ?_)
    · walk_at "go"
      exact q0 (fun z => by have := z.2.2.2.1; omega) _ smx
    walk_at "go"
    refine rd_ixLI (by omega) (by omega) ?_
    rw [show Int.toNat 0 = 0 from rfl]
    walk_at "go"
    refine rd_D (fun h => ?_) (fun h5 => ?_)
    · walk_at "go"
      refine q0 (fun z => h ?_) _ smx
      rw [List.getD_eq_getElem?_getD, ← List.head?_eq_getElem?, z.2.2.2.2.1]
      rfl
    walk_at "go"
    refine rd_ixLL (by omega) ?_
    walk_at "go"
    refine rd_D (fun h => ?_) (fun h6 => ?_)
    · walk_at "go"
      refine q0 (fun z => h ?_) _ smx
      rw [z.2.2.2.2.2.1]
      rfl
    walk_at "go"
    rename_i p7 H7 s7 f7 o7
    have o7' : OB H7 p7 (.lst (rs.reverse.map V.int)) := obl
    clear o7
    have hlen : cs.length = rs.length + 1 := by omega
    have h5 : cs.getD 0 0 = 0 := Decidable.of_not_not h5
    have h6 : cs.getLast?.getD 0 = 0 := Decidable.of_not_not h6
    have h0 : cs[0]? = some 0 := by
      rw [List.getD_eq_getElem?_getD, List.getElem?_eq_getElem (by omega), Option.getD_some] at h5
      rw [List.getElem?_eq_getElem (by omega), h5]
    have hL : cs.getLast? = some 0 := by
      cases e : cs.getLast? with
      | none =>
        rw [List.getLast?_eq_none_iff] at e
        rw [e] at hlen
        simp at hlen
      | some w =>
        rw [e] at h6
        exact congrArg some h6
    refine forM (it_enum (xs := rs.reverse.map V.int)) (fun i σ H' => ∃ (k : Int) (v4 v5 v6 : Option V), σ = [some (.ref t), some (.ref p), some (.ref r), some (.ref u), v4, v5, v6] ∧ 0 ≤ k ∧ k ≤ 10 ^ 6 ∧ cs[i]? = some (b * k) ∧ chk a b ns rs.reverse cs = chk a b (ns.drop i) (rs.reverse.drop i) (cs.drop i) ∧ SM H' H7)
      ⟨0, _, _, _, rfl, Int.le_refl 0, by decide, by rw [Int.mul_zero]; exact h0, rfl, smx⟩ (fun _ _ _ ⟨_, _, _, _, _, _, _, _, _, _⟩ => inferInstance) ?_ ?_
    · rintro i v σ H8 H9 hi ⟨k, v4, v5, v6, rfl, k0, k1, hci, hchk, s8⟩ ⟨T, y, rfl, hy, s9, f9, o9⟩
      rw [List.length_map] at hi
      have hi' : i < rs.length := by rw [List.length_reverse] at hi; exact hi
      have hi2 : i < cs.length := by omega
      have hi3 : i + 1 < cs.length := by omega
      rw [List.getElem?_map, List.getElem?_eq_getElem hi] at hy
      have ey : y = .int rs.reverse[i] := (Option.some.inj hy).symm
      subst ey
      have ec : cs[i] = b * k := by rw [List.getElem?_eq_getElem hi2] at hci; exact Option.some.inj hci
      rw [List.drop_eq_getElem_cons hi, List.drop_eq_getElem_cons hi2, List.drop_eq_getElem_cons hi3, ec] at hchk
      generalize rs.reverse[i] = f at hchk o9
      have hbk : 0 ≤ b * k := Int.mul_nonneg (by omega) k0
      have hbk1 : b * k ≤ 60 * k := Int.mul_le_mul_of_nonneg_right (by omega) k0
      walk_at "go"
      refine rd_D (fun h7 => ?_) (fun h7 => ?_)
      · have g1 : i < ns.length := by omega
        have hS : (ns.drop i).headD 0 = ns[i] := by rw [List.drop_eq_getElem_cons g1]; rfl
        obtain ⟨s0, s1⟩ := hx ns[i] (List.getElem_mem g1)
        walk_at "go"
        refine rd_ixLI (by omega) (by omega) ?_
        rw [show ns.getD (i : Int).toNat 0 = ns[i] by rw [Int.toNat_natCast, List.getD_eq_getElem?_getD, List.getElem?_eq_getElem g1, Option.getD_some]]
        generalize ns[i] = ss at hS s0 s1
        walk_at "go"
        refine rd_ixLI (by omega) (by omega) ?_
        rw [show cs.getD (i : Int).toNat 0 = b * k by rw [Int.toNat_natCast, List.getD_eq_getElem?_getD, hci]; rfl]
        walk_at "go"
        refine rd_D (fun h8 => ?_) (fun h8 => ?_)
        · walk_at "go"
          refine q0 (fun z => ?_) _ smx
          have := z.2.2.2.2.2.2
          rw [hchk, chk_cons, hS, decide_eq_false h8] at this
          cases this
        have st := car_step (s := ss) g.b1 g.ba s0 s1 k0 k1
        have bt : Bd ((ss + b * k) / a) := bd_s (by omega)
        walk_at "go"
        refine rd_ixLI (by omega) (by omega) ?_
        rw [show cs.getD ((i : Int) + 1).toNat 0 = cs[i + 1] by rw [show ((i : Int) + 1).toNat = i + 1 by omega, List.getD_eq_getElem?_getD, List.getElem?_eq_getElem hi3]; rfl]
        walk_at "go"
        refine rd_D (fun h9 => ?_) (fun h9 => ?_)
        · walk_at "go"
          refine q0 (fun z => ?_) _ smx
          have := z.2.2.2.2.2.2
          rw [hchk, chk_cons, hS, decide_eq_false h9, Bool.and_comm, Bool.false_and] at this
          cases this
        walk_at "go"
        have h8 : (ss + b * k) % a = f := Decidable.of_not_not h8
        have h9 : cs[i + 1] = b * ((ss + b * k) / a) := Decidable.of_not_not h9
        refine ⟨(ss + b * k) / a, _, _, _, rfl, st.1, st.2, by rw [List.getElem?_eq_getElem hi3, h9], ?_, smx⟩
        rw [hchk, chk_cons, hS, decide_eq_true h8, decide_eq_true h9, Bool.true_and, Bool.true_and, List.tail_drop, ← List.drop_eq_getElem_cons hi3]
      · have hS : (ns.drop i).headD 0 = 0 := by rw [List.drop_of_length_le (by omega)]; rfl
        have s0 : (0 : Int) ≤ 0 := Int.le_refl 0
        have s1 : (0 : Int) ≤ 10 ^ 6 := by decide
        walk_at "go"
        refine rd_ixLI (by omega) (by omega) ?_
        rw [show cs.getD (i : Int).toNat 0 = b * k by rw [Int.toNat_natCast, List.getD_eq_getElem?_getD, hci]; rfl]
        walk_at "go"
        refine rd_D (fun h8 => ?_) (fun h8 => ?_)
        · walk_at "go"
          refine q0 (fun z => ?_) _ smx
          have := z.2.2.2.2.2.2
          rw [hchk, chk_cons, hS, decide_eq_false h8] at this
          cases this
        have st := car_step (s := 0) g.b1 g.ba s0 s1 k0 k1
        have bt : Bd ((0 + b * k) / a) := bd_s (by omega)
        walk_at "go"
        refine rd_ixLI (by omega) (by omega) ?_
        rw [show cs.getD ((i : Int) + 1).toNat 0 = cs[i + 1] by rw [show ((i : Int) + 1).toNat = i + 1 by omega, List.getD_eq_getElem?_getD, List.getElem?_eq_getElem hi3]; rfl]
        walk_at "go"
        refine rd_D (fun h9 => ?_) (fun h9 => ?_)
        · walk_at "go"
          refine q0 (fun z => ?_) _ smx
          have := z.2.2.2.2.2.2
          rw [hchk, chk_cons, hS, decide_eq_false h9, Bool.and_comm, Bool.false_and] at this
          cases this
        walk_at "go"
        have h8 : (0 + b * k) % a = f := Decidable.of_not_not h8
        have h9 : cs[i + 1] = b * ((0 + b * k) / a) := Decidable.of_not_not h9
        refine ⟨(0 + b * k) / a, _, _, _, rfl, st.1, st.2, by rw [List.getElem?_eq_getElem hi3, h9], ?_, smx⟩
        rw [hchk, chk_cons, hS, decide_eq_true h8, decide_eq_true h9, Bool.true_and, Bool.true_and, List.tail_drop, ← List.drop_eq_getElem_cons hi3]
    · rintro σ H8 ⟨k, v4, v5, v6, rfl, k0, k1, hci, hchk, s8⟩
      walk_at "go"
      refine q1 ⟨hfg, h2, by omega, hlen, by rw [List.head?_eq_getElem?]; exact h0, hL, ?_⟩ _ smx
      rw [hchk, List.length_map, List.drop_length]
      exact chk_nil
theorem sc_summed : FnScope ["one", "other", "many", "mine", "theirs", "first", "second"] ["one", "other"] (defScope s_summed) := ⟨rfl, rfl, rfl, by decide +kernel, rfl, by decide +kernel, by decide +kernel⟩
def sp_summed : Sp := fun vs H Q _ => ∃ (p r : Addr) (ns ms : List Int), vs = [.ref p, .ref r] ∧ OB H p (.lst (ns.map V.int)) ∧ OB H r (.lst (ms.map V.int)) ∧ ns.length ≤ 3000 ∧ ms.length ≤ 3000 ∧ kNew Q (.lst ((addZ ns.reverse ms.reverse).map V.int)) H
theorem go_summed {p r xs ys ns ms H Q E} [o : OB H p (.lst xs)] [e : ILs xs ns] [o2 : OB H r (.lst ys)] [e2 : ILs ys ms] (hl : ns.length ≤ 3000) (hl2 : ms.length ≤ 3000) (q : kNew Q (.lst ((addZ ns.reverse ms.reverse).map V.int)) H) : sp_summed [.ref p, .ref r] H Q E := ⟨p, r, ns, ms, rfl, ob_ints e o, ob_ints e2 o2, hl, hl2, q⟩
theorem ok_summed (T : Top K mg c) : Fn P w K mg base "summed" ["one", "other"] 1 sp_summed := by
  have iO_Writes : OwnI K (c 1) := ⟨T.o_Writes⟩
  have iA_Writes_number : NoaI K (c 1) "number" := ⟨T.a_Writes_number⟩
  have iK_Writes_Writes : KitI K (c 1) (c 1) true := ⟨T.q_Writes.kit T.k_Writes_Writes.1 T.k_Writes_Writes.2⟩
  have iO_Breaks : OwnI K (c 2) := ⟨T.o_Breaks⟩
  have iA_Breaks_place : NoaI K (c 2) "place" := ⟨T.a_Breaks_place⟩
  have iA_Breaks_left : NoaI K (c 2) "left" := ⟨T.a_Breaks_left⟩
  have iK_Breaks_Writes : KitI K (c 2) (c 1) false := ⟨T.q_Writes.kit T.k_Breaks_Writes.1 T.k_Breaks_Writes.2⟩
  have iO_Sum : OwnI K (c 3) := ⟨T.o_Sum⟩
  have iA_Sum_row : NoaI K (c 3) "row" := ⟨T.a_Sum_row⟩
  have iA_Sum_carries : NoaI K (c 3) "carries" := ⟨T.a_Sum_carries⟩
  have iK_Sum_Writes : KitI K (c 3) (c 1) false := ⟨T.q_Writes.kit T.k_Sum_Writes.1 T.k_Sum_Writes.2⟩
  have iO_Times : OwnI K (c 4) := ⟨T.o_Times⟩
  have iA_Times_row : NoaI K (c 4) "row" := ⟨T.a_Times_row⟩
  have iA_Times_carries : NoaI K (c 4) "carries" := ⟨T.a_Times_carries⟩
  have iK_Times_Writes : KitI K (c 4) (c 1) false := ⟨T.q_Writes.kit T.k_Times_Writes.1 T.k_Times_Writes.2⟩
  refine T.f_summed.ok sc_summed (fun vs H Q E h => ?_) (fun f cdv A outer s H vs Q E hr h => ?_)
  · obtain ⟨p, r, ns, ms, rfl, o1, o2, hl, hl2, q⟩ := h
    rfl
  · obtain ⟨p, r, ns, ms, rfl, o1, o2, hl, hl2, q⟩ := h
    refine ⟨_, (pss_cons (ps_set (i := 2) sc_summed.nd rfl (Or.inl rfl) (pe_callB (cr_max2B rfl) rfl T.n_max (by decide +kernel) (pa_cons (pe_callB cr_lenB rfl T.n_len (by decide +kernel) (pa_cons (pv 0) pa_nil)) (pa_cons (pe_callB cr_lenB rfl T.n_len (by decide +kernel) (pa_cons (pv 1) pa_nil)) pa_nil))))
      (pss_cons (ps_par (i := 3) (j := 4) rfl sc_summed.nd rfl rfl (by decide) rfl rfl (pa_cons (pe_op op_catB (pe_revB (pv 0)) (pe_op op_repB (pe_lstB (pa_cons pe_int pa_nil)) (pe_op op_sub (pv 2) (pe_callB cr_lenB rfl T.n_len (by decide +kernel) (pa_cons (pv 0) pa_nil))))) (pa_cons (pe_op op_catB (pe_revB (pv 1)) (pe_op op_repB (pe_lstB (pa_cons pe_int pa_nil)) (pe_op op_sub (pv 2) (pe_callB cr_lenB rfl T.n_len (by decide +kernel) (pa_cons (pv 1) pa_nil))))) pa_nil)) rfl)
      (pss_one (ps_ret (pe_lc (own := [("first", 5), ("second", 6)]) (g := gTupB 2 (gCons (gName 5) (gCons (gName 6) (gNil)))) (tt := tYes) rfl sc_summed.nd (pi_zip rfl T.n_zip (pa_cons (pv 3) (pa_cons (pv 4) pa_nil))) (blkOk_by (own := [("first", 5), ("second", 6)]) (N := ["one", "other", "many", "mine", "theirs", "first", "second"]) (sc := defScope s_summed) (by decide +kernel)) (fun _ _ _ _ _ => (pg_tupB (n := 2) rfl (pgs_cons (pg_name (i := 5) sc_summed.nd rfl (Or.inl rfl)) (pgs_cons (pg_name (i := 6) sc_summed.nd rfl (Or.inl rfl)) pgs_nil)))) (fun _ _ _ _ _ => pts_nil) (fun _ _ _ _ _ => (pe_op op_add (pv 5) (pv 6)))))))), ?_⟩
    walk_at "go"
    rename_i pa Ha sa fa oa pb Hb sb fb ob pc Hc sc fc oc pd Hd sd fd od pe He se fe oe pf Hf sf ff of pg Hg sg fg og ph Hh sh fh oh
    have oL : OB Hh pd (.lst ((ns.reverse ++ List.replicate (max (ns.length : Int) ms.length - ns.length).toNat 0).map V.int)) := obl
    have oM : OB Hh ph (.lst ((ms.reverse ++ List.replicate (max (ns.length : Int) ms.length - ms.length).toNat 0).map V.int)) := obl
    clear oa ob oc od oe of og oh
    walk_at "go"
    
    generalize hL : ns.reverse ++ List.replicate (max (ns.length : Int) ms.length - ns.length).toNat 0 = L at *
    generalize hM : ms.reverse ++ List.replicate (max (ns.length : Int) ms.length - ms.length).toNat 0 = M at *
    have lL : L.length = max ns.length ms.length := by rw [← hL]; simp; omega
    have lM : M.length = max ns.length ms.length := by rw [← hM]; simp; omega
    have hz : List.zipWith (fun x y => x + y) L M = addZ ns.reverse ms.reverse := by
      rw [← addZ_zip (max ns.length ms.length) ns.reverse ms.reverse (by rw [List.length_reverse]; omega) (by rw [List.length_reverse]; omega) (by rw [List.length_reverse, List.length_reverse]), List.length_reverse, List.length_reverse, ← hL, ← hM]
      congr 3 <;> (congr 1; omega)
    refine lcMap (addZ ns.reverse ms.reverse) V.int (it_zip (xs := L.map V.int) (ys := M.map V.int)) (by rw [← hz]; simp) (by rw [addZ_len]; simp; omega) (fun H' s => ⟨inferInstance, inferInstance⟩) ?_ ?_
    · rintro i x v H' H'' hi s ⟨T, x', y', rfl, hx, hy, s2, f2, oT⟩ Nt Nf ht
      rw [← hz, List.getElem?_zipWith] at hi
      rw [List.getElem?_map] at hx hy
      cases e1 : L[i]? with
      | none => rw [e1] at hx; cases hx
      | some u =>
        cases e2 : M[i]? with
        | none => rw [e2] at hy; cases hy
        | some w =>
          rw [e1] at hx hi
          rw [e2] at hy hi
          have ex : x' = .int u := (Option.some.inj hx).symm
          have ey : y' = .int w := (Option.some.inj hy).symm
          have ez : x = u + w := (Option.some.inj hi).symm
          subst ex ey ez
          walk_at "go"
          exact ht _ smx
    · intro D H1 s1 f1 o1
      exact kret q
theorem sc_check_row : FnScope ["base", "row"] ["base", "row"] (defScope s_check_row) := ⟨rfl, rfl, rfl, by decide +kernel, rfl, by decide +kernel, by decide +kernel⟩
def sp_check_row : Sp := fun vs H Q _ => ∃ t p a b ns, vs = [.ref t, .ref p] ∧ OB H t (.tup [.int a, .int b]) ∧ OB H p (.lst (ns.map V.int)) ∧ figs a ns = true ∧ ns.length ≤ 200 ∧ ∀ H', SM H' H → Q .non H'
theorem go_check_row {t p a b xs ns H Q E} [o : OB H t (.tup [.int a, .int b])] [o2 : OB H p (.lst xs)] [e : ILs xs ns] (hf : figs a ns = true) (hl : ns.length ≤ 200) (q : ∀ H', SM H' H → Q .non H') : sp_check_row [.ref t, .ref p] H Q E := ⟨t, p, a, b, ns, rfl, o, ob_ints e o2, hf, hl, q⟩
theorem ok_check_row (T : Top K mg c) : Fn P w K mg base "check_row" ["base", "row"] 3 sp_check_row := by
  have F_are_figures := ok_are_figures (P := P) (w := w) (base := base) T
  have iO_Writes : OwnI K (c 1) := ⟨T.o_Writes⟩
  have iA_Writes_number : NoaI K (c 1) "number" := ⟨T.a_Writes_number⟩
  have iK_Writes_Writes : KitI K (c 1) (c 1) true := ⟨T.q_Writes.kit T.k_Writes_Writes.1 T.k_Writes_Writes.2⟩
  have iO_Breaks : OwnI K (c 2) := ⟨T.o_Breaks⟩
  have iA_Breaks_place : NoaI K (c 2) "place" := ⟨T.a_Breaks_place⟩
  have iA_Breaks_left : NoaI K (c 2) "left" := ⟨T.a_Breaks_left⟩
  have iK_Breaks_Writes : KitI K (c 2) (c 1) false := ⟨T.q_Writes.kit T.k_Breaks_Writes.1 T.k_Breaks_Writes.2⟩
  have iO_Sum : OwnI K (c 3) := ⟨T.o_Sum⟩
  have iA_Sum_row : NoaI K (c 3) "row" := ⟨T.a_Sum_row⟩
  have iA_Sum_carries : NoaI K (c 3) "carries" := ⟨T.a_Sum_carries⟩
  have iK_Sum_Writes : KitI K (c 3) (c 1) false := ⟨T.q_Writes.kit T.k_Sum_Writes.1 T.k_Sum_Writes.2⟩
  have iO_Times : OwnI K (c 4) := ⟨T.o_Times⟩
  have iA_Times_row : NoaI K (c 4) "row" := ⟨T.a_Times_row⟩
  have iA_Times_carries : NoaI K (c 4) "carries" := ⟨T.a_Times_carries⟩
  have iK_Times_Writes : KitI K (c 4) (c 1) false := ⟨T.q_Writes.kit T.k_Times_Writes.1 T.k_Times_Writes.2⟩
  refine T.f_check_row.ok sc_check_row (fun vs H Q E h => ?_) (fun f cdv A outer s H vs Q E hr h => ?_)
  · obtain ⟨t, p, a, b, ns, rfl, o, o2, hf, hl, q⟩ := h
    rfl
  · obtain ⟨t, p, a, b, ns, rfl, o, o2, hf, hl, q⟩ := h
    refine ⟨_, (pss_one (ps_if (PW.pt (pw_or (pt_not (pt_val (pe_fn F_are_figures hr rfl (pa_cons (pv 0) (pa_cons (pv 1) pa_nil))))) (pw_or1 (pt_cmpR op_gt (pe_callB cr_lenB rfl T.n_len (by decide +kernel) (pa_cons (pv 1) pa_nil)) (pe_glob (v := .int 200) rfl (T.c_LONGEST).choose_spec ⟨_, rfl⟩) (nomark _))))) (pss_one ps_never) pss_nil)), ?_⟩
    walk_at "go"
    refine go_are_figures (by omega) fun H1 s1 => ?_
    rw [hf]
    walk_at "go"
    exact q _ smx
theorem sc_row_of : FnScope ["base", "number", "found", "figure"] ["base", "number"] (defScope s_row_of) := ⟨rfl, rfl, rfl, by decide +kernel, rfl, by decide +kernel, by decide +kernel⟩
def sp_row_of : Sp := fun vs H Q _ => ∃ t a b n, vs = [.ref t, .int n] ∧ OB H t (.tup [.int a, .int b]) ∧ GB a b ∧ 0 ≤ n ∧ Bd n ∧ ((row a b n).length ≤ 2000 → kNew Q (.lst ((row a b n).map V.int)) H) ∧ (2000 < (row a b n).length → ∀ H', SM H' H → Q .non H')
theorem go_row_of {t a b n H Q E} [o : OB H t (.tup [.int a, .int b])] (g : GB a b) (h0 : 0 ≤ n) (h : Bd n) (hl : (row a b n).length ≤ 2000) (q : kNew Q (.lst ((row a b n).map V.int)) H) : sp_row_of [.ref t, .int n] H Q E := ⟨t, a, b, n, rfl, o, g, h0, h, fun _ => q, fun z => absurd hl (by omega)⟩
theorem ok_row_of (T : Top K mg c) : Fn P w K mg base "row_of" ["base", "number"] 2 sp_row_of := by
  have F_parted := ok_parted (P := P) (w := w) (base := base) T
  have iO_Writes : OwnI K (c 1) := ⟨T.o_Writes⟩
  have iA_Writes_number : NoaI K (c 1) "number" := ⟨T.a_Writes_number⟩
  have iK_Writes_Writes : KitI K (c 1) (c 1) true := ⟨T.q_Writes.kit T.k_Writes_Writes.1 T.k_Writes_Writes.2⟩
  have iO_Breaks : OwnI K (c 2) := ⟨T.o_Breaks⟩
  have iA_Breaks_place : NoaI K (c 2) "place" := ⟨T.a_Breaks_place⟩
  have iA_Breaks_left : NoaI K (c 2) "left" := ⟨T.a_Breaks_left⟩
  have iK_Breaks_Writes : KitI K (c 2) (c 1) false := ⟨T.q_Writes.kit T.k_Breaks_Writes.1 T.k_Breaks_Writes.2⟩
  have iO_Sum : OwnI K (c 3) := ⟨T.o_Sum⟩
  have iA_Sum_row : NoaI K (c 3) "row" := ⟨T.a_Sum_row⟩
  have iA_Sum_carries : NoaI K (c 3) "carries" := ⟨T.a_Sum_carries⟩
  have iK_Sum_Writes : KitI K (c 3) (c 1) false := ⟨T.q_Writes.kit T.k_Sum_Writes.1 T.k_Sum_Writes.2⟩
  have iO_Times : OwnI K (c 4) := ⟨T.o_Times⟩
  have iA_Times_row : NoaI K (c 4) "row" := ⟨T.a_Times_row⟩
  have iA_Times_carries : NoaI K (c 4) "carries" := ⟨T.a_Times_carries⟩
  have iK_Times_Writes : KitI K (c 4) (c 1) false := ⟨T.q_Writes.kit T.k_Times_Writes.1 T.k_Times_Writes.2⟩
  refine T.f_row_of.ok sc_row_of (fun vs H Q E h => ?_) (fun f cdv A outer s H vs Q E hr h => ?_)
  · obtain ⟨t, a, b, n, rfl, o, g, h0, hn, q1, q2⟩ := h
    rfl
  · obtain ⟨t, a, b, n, rfl, o, g, h0, hn, q1, q2⟩ := h
    refine ⟨_, (pss_cons (ps_set (i := 2) sc_row_of.nd rfl (Or.inl rfl) (pe_lstB pa_nil))
      (pss_cons (ps_while PassesOwn.never (PW.pt (pw_and (pt_cmpR op_gt (pv 1) pe_int (nomark _)) (pw_and1 (pt_cmpR op_le (pe_callB cr_lenB rfl T.n_len (by decide +kernel) (pa_cons (pv 2) pa_nil)) (pe_glob (v := .int 2000) rfl (T.c_MOST_rows).choose_spec ⟨_, rfl⟩) (nomark _))))) (pss_cons (ps_asg (pe_fn F_parted hr rfl (pa_cons (pv 0) (pa_cons (pv 1) pa_nil))) (pg_tupB (n := 2) rfl (pgs_cons (pg_name (i := 1) sc_row_of.nd rfl (Or.inl rfl)) (pgs_cons (pg_name (i := 3) sc_row_of.nd rfl (Or.inl rfl)) pgs_nil))))
      (pss_one (ps_expr (pe_bm PySem.F.plainAttrs_list PySem.F.slot_list_append PySem.F.type_list_append mt_appendB (pv 2) (pa_cons (pv 3) pa_nil))))))
      (pss_one (ps_ret (pe_ifExp (PW.pt (pw_and (pt_cmpR op_eq (pv 1) pe_int (nomark _)) (pw_and1 (pt_cmpR op_le (pe_callB cr_lenB rfl T.n_len (by decide +kernel) (pa_cons (pv 2) pa_nil)) (pe_glob (v := .int 2000) rfl (T.c_MOST_rows).choose_spec ⟨_, rfl⟩) (nomark _))))) (pe_revB (pv 2)) pe_non))))), ?_⟩
    have gg := g.ok
    walk_at "go"
    rename_i p H1 s1 f1 o1
    have o1' : OB H1 p (.lst (([] : List Int).map V.int)) := o1
    clear o1
    refine whM (fun m σ H' => ∃ (n' : Int) (ns : List Int) (v : Option V), σ = [some (.ref t), some (.int n'), some (.ref p), v] ∧ 0 ≤ n' ∧ n' ≤ n ∧ SM H' H ∧ OB H' p (.lst (ns.map V.int)) ∧ row a b n' ++ ns.reverse = row a b n ∧ ns.length ≤ 2001 ∧ m = n'.toNat) ⟨_, n, [], none, rfl, h0, Int.le_refl _, smx, o1', by simp, by simp, rfl⟩ ?_
    rintro m σ H' ⟨n', ns, v, rfl, a0, a1, s2, o2, er, el, rfl⟩
    have hb := bd_le a0 a1 hn
    walk_at "go"
    refine rd_D (fun hp => ?_) (fun hp => ?_)
    · walk_at "go"
      refine rd_D (fun hq => ?_) (fun hq => ?_)
      · refine ⟨_, fun _ _ h => h, ?_⟩
        walk_at "go"
        refine go_parted g hb ?_
        intro t2 H2 s3 f3 o3
        walk_at "go"
        rename_i H3 u3 o4
        have l := div_lt' g.b1 g.ba hp
        have l0 := div_nn g.b1 g.ba a0
        refine ⟨_, ?_, b * n' / a, ns ++ [b * n' % a], _, rfl, l0, by omega, smx, by rw [List.map_append]; exact o4, ?_, ?_, rfl⟩
        · omega
        · rw [← er, row_step g.b1 g.ba hp]
          simp
        · simp; omega
      · walk_at "go"
        have : 2000 < (row a b n).length := by
          rw [← er, row_step g.b1 g.ba hp]
          simp
          omega
        refine q2 this _ smx
    · walk_at "go"
      have e0 : n' = 0 := by omega
      subst e0
      rw [row_nil (Int.le_refl 0), List.nil_append] at er
      walk_at "go"
      have el2 : ns.length = (row a b n).length := by rw [← er]; simp
      refine rd_D (fun hq => ?_) (fun hq => ?_)
      · walk_at "go"
        have q := q1 (by omega)
        rw [← er, List.map_reverse] at q
        exact kret q
      · walk_at "go"
        exact q2 (by omega) _ smx
theorem sc_written : FnScope ["base", "number", "found"] ["base", "number"] (defScope s_written) := ⟨rfl, rfl, rfl, by decide +kernel, rfl, by decide +kernel, by decide +kernel⟩
def sp_written : Sp := fun vs H Q _ => ∃ t a b n, vs = [.ref t, .int n] ∧ OB H t (.tup [.int a, .int b]) ∧ GB a b ∧ 0 ≤ n ∧ Bd n ∧ (row a b n).length ≤ 2000 ∧ kNew Q (.lst ((row a b n).map V.int)) H
theorem go_written {t a b n H Q E} [o : OB H t (.tup [.int a, .int b])] (g : GB a b) (h0 : 0 ≤ n) (h : Bd n) (hl : (row a b n).length ≤ 2000) (q : kNew Q (.lst ((row a b n).map V.int)) H) : sp_written [.ref t, .int n] H Q E := ⟨t, a, b, n, rfl, o, g, h0, h, hl, q⟩
theorem ok_written (T : Top K mg c) : Fn P w K mg base "written" ["base", "number"] 3 sp_written := by
  have F_check_base := ok_check_base (P := P) (w := w) (base := base) T
  have F_check_number := ok_check_number (P := P) (w := w) (base := base) T
  have F_row_of := ok_row_of (P := P) (w := w) (base := base) T
  have iO_Writes : OwnI K (c 1) := ⟨T.o_Writes⟩
  have iA_Writes_number : NoaI K (c 1) "number" := ⟨T.a_Writes_number⟩
  have iK_Writes_Writes : KitI K (c 1) (c 1) true := ⟨T.q_Writes.kit T.k_Writes_Writes.1 T.k_Writes_Writes.2⟩
  have iO_Breaks : OwnI K (c 2) := ⟨T.o_Breaks⟩
  have iA_Breaks_place : NoaI K (c 2) "place" := ⟨T.a_Breaks_place⟩
  have iA_Breaks_left : NoaI K (c 2) "left" := ⟨T.a_Breaks_left⟩
  have iK_Breaks_Writes : KitI K (c 2) (c 1) false := ⟨T.q_Writes.kit T.k_Breaks_Writes.1 T.k_Breaks_Writes.2⟩
  have iO_Sum : OwnI K (c 3) := ⟨T.o_Sum⟩
  have iA_Sum_row : NoaI K (c 3) "row" := ⟨T.a_Sum_row⟩
  have iA_Sum_carries : NoaI K (c 3) "carries" := ⟨T.a_Sum_carries⟩
  have iK_Sum_Writes : KitI K (c 3) (c 1) false := ⟨T.q_Writes.kit T.k_Sum_Writes.1 T.k_Sum_Writes.2⟩
  have iO_Times : OwnI K (c 4) := ⟨T.o_Times⟩
  have iA_Times_row : NoaI K (c 4) "row" := ⟨T.a_Times_row⟩
  have iA_Times_carries : NoaI K (c 4) "carries" := ⟨T.a_Times_carries⟩
  have iK_Times_Writes : KitI K (c 4) (c 1) false := ⟨T.q_Writes.kit T.k_Times_Writes.1 T.k_Times_Writes.2⟩
  refine T.f_written.ok sc_written (fun vs H Q E h => ?_) (fun f cdv A outer s H vs Q E hr h => ?_)
  · obtain ⟨t, a, b, n, rfl, o, g, h0, hn, hl, q⟩ := h
    rfl
  · obtain ⟨t, a, b, n, rfl, o, g, h0, hn, hl, q⟩ := h
    refine ⟨_, (pss_cons (ps_expr (pe_fn F_check_base hr rfl (pa_cons (pv 0) pa_nil)))
      (pss_cons (ps_expr (pe_fn F_check_number hr rfl (pa_cons (pv 1) (pa_cons pe_int pa_nil))))
      (pss_cons (ps_set (i := 2) sc_written.nd rfl (Or.inl rfl) (pe_fn F_row_of hr rfl (pa_cons (pv 0) (pa_cons (pv 1) pa_nil))))
      (pss_cons (ps_if (pt_cmp (pc_isN (pv 2))) (pss_one ps_never) pss_nil)
      (pss_one (ps_ret (pv 2))))))), ?_⟩
    have gg := g.ok
    walk_at "go"
    refine go_check_base g fun H1 s1 => ?_
    walk_at "go"
    refine go_check_number h0 ?_
    walk_at "go"
    refine go_row_of g h0 hn hl ?_
    intro p H2 s2 f2 o2
    walk_at "go"
    exact kret q
theorem sc_Writes___init__ : FnScope ["self", "number"] ["self", "number"] (defScope s_Writes___init__) := ⟨rfl, rfl, rfl, by decide +kernel, rfl, by decide +kernel, by decide +kernel⟩
def sp_Writes_init (c : Nat → Addr) : Sp := fun vs H Q _ => ∃ x dx n, vs = [.ref x, .int n] ∧ OB H x (.ins (c 1) dx []) ∧ ∀ H', MU H' H x → OB H' x (.ins (c 1) dx [("number", .int n)]) → Q .non H'
theorem go_Writes_init {c : Nat → Addr} {x dx n H Q E} [o : OB H x (.ins (c 1) dx [])] (q : ∀ H', MU H' H x → OB H' x (.ins (c 1) dx [("number", .int n)]) → Q .non H') : sp_Writes_init c [.ref x, .int n] H Q E := ⟨x, dx, n, rfl, o, q⟩
theorem oki_Writes (T : Top K mg c) : FnI P w K mg base (c 1) ["self", "number"] 1 (sp_Writes_init c) := by
  have iO_Writes : OwnI K (c 1) := ⟨T.o_Writes⟩
  have iA_Writes_number : NoaI K (c 1) "number" := ⟨T.a_Writes_number⟩
  have iK_Writes_Writes : KitI K (c 1) (c 1) true := ⟨T.q_Writes.kit T.k_Writes_Writes.1 T.k_Writes_Writes.2⟩
  have iO_Breaks : OwnI K (c 2) := ⟨T.o_Breaks⟩
  have iA_Breaks_place : NoaI K (c 2) "place" := ⟨T.a_Breaks_place⟩
  have iA_Breaks_left : NoaI K (c 2) "left" := ⟨T.a_Breaks_left⟩
  have iK_Breaks_Writes : KitI K (c 2) (c 1) false := ⟨T.q_Writes.kit T.k_Breaks_Writes.1 T.k_Breaks_Writes.2⟩
  have iO_Sum : OwnI K (c 3) := ⟨T.o_Sum⟩
  have iA_Sum_row : NoaI K (c 3) "row" := ⟨T.a_Sum_row⟩
  have iA_Sum_carries : NoaI K (c 3) "carries" := ⟨T.a_Sum_carries⟩
  have iK_Sum_Writes : KitI K (c 3) (c 1) false := ⟨T.q_Writes.kit T.k_Sum_Writes.1 T.k_Sum_Writes.2⟩
  have iO_Times : OwnI K (c 4) := ⟨T.o_Times⟩
  have iA_Times_row : NoaI K (c 4) "row" := ⟨T.a_Times_row⟩
  have iA_Times_carries : NoaI K (c 4) "carries" := ⟨T.a_Times_carries⟩
  have iK_Times_Writes : KitI K (c 4) (c 1) false := ⟨T.q_Writes.kit T.k_Times_Writes.1 T.k_Times_Writes.2⟩
  refine T.i_Writes.ok sc_Writes___init__ (fun vs H Q E h => ?_) (fun f cdv A outer s H vs Q E hr h => ?_)
  · obtain ⟨x, dx, n, rfl, o, q⟩ := h
    rfl
  · obtain ⟨x, dx, n, rfl, o, q⟩ := h
    refine ⟨_, (pss_one (ps_fldK (K := K) rfl (pv 0) (pv 1) rfl)), ?_⟩
    walk_at "go"
    exact q _ inferInstance inferInstance
theorem sc_Breaks___init__ : FnScope ["self", "place", "left"] ["self", "place", "left"] (defScope s_Breaks___init__) := ⟨rfl, rfl, rfl, by decide +kernel, rfl, by decide +kernel, by decide +kernel⟩
def sp_Breaks_init (c : Nat → Addr) : Sp := fun vs H Q _ => ∃ x dx n m, vs = [.ref x, .int n, .int m] ∧ OB H x (.ins (c 2) dx []) ∧ ∀ H', MU H' H x → OB H' x (.ins (c 2) dx [("place", .int n), ("left", .int m)]) → Q .non H'
theorem go_Breaks_init {c : Nat → Addr} {x dx n m H Q E} [o : OB H x (.ins (c 2) dx [])] (q : ∀ H', MU H' H x → OB H' x (.ins (c 2) dx [("place", .int n), ("left", .int m)]) → Q .non H') : sp_Breaks_init c [.ref x, .int n, .int m] H Q E := ⟨x, dx, n, m, rfl, o, q⟩
theorem oki_Breaks (T : Top K mg c) : FnI P w K mg base (c 2) ["self", "place", "left"] 1 (sp_Breaks_init c) := by
  have iO_Writes : OwnI K (c 1) := ⟨T.o_Writes⟩
  have iA_Writes_number : NoaI K (c 1) "number" := ⟨T.a_Writes_number⟩
  have iK_Writes_Writes : KitI K (c 1) (c 1) true := ⟨T.q_Writes.kit T.k_Writes_Writes.1 T.k_Writes_Writes.2⟩
  have iO_Breaks : OwnI K (c 2) := ⟨T.o_Breaks⟩
  have iA_Breaks_place : NoaI K (c 2) "place" := ⟨T.a_Breaks_place⟩
  have iA_Breaks_left : NoaI K (c 2) "left" := ⟨T.a_Breaks_left⟩
  have iK_Breaks_Writes : KitI K (c 2) (c 1) false := ⟨T.q_Writes.kit T.k_Breaks_Writes.1 T.k_Breaks_Writes.2⟩
  have iO_Sum : OwnI K (c 3) := ⟨T.o_Sum⟩
  have iA_Sum_row : NoaI K (c 3) "row" := ⟨T.a_Sum_row⟩
  have iA_Sum_carries : NoaI K (c 3) "carries" := ⟨T.a_Sum_carries⟩
  have iK_Sum_Writes : KitI K (c 3) (c 1) false := ⟨T.q_Writes.kit T.k_Sum_Writes.1 T.k_Sum_Writes.2⟩
  have iO_Times : OwnI K (c 4) := ⟨T.o_Times⟩
  have iA_Times_row : NoaI K (c 4) "row" := ⟨T.a_Times_row⟩
  have iA_Times_carries : NoaI K (c 4) "carries" := ⟨T.a_Times_carries⟩
  have iK_Times_Writes : KitI K (c 4) (c 1) false := ⟨T.q_Writes.kit T.k_Times_Writes.1 T.k_Times_Writes.2⟩
  refine T.i_Breaks.ok sc_Breaks___init__ (fun vs H Q E h => ?_) (fun f cdv A outer s H vs Q E hr h => ?_)
  · obtain ⟨x, dx, n, m, rfl, o, q⟩ := h
    rfl
  · obtain ⟨x, dx, n, m, rfl, o, q⟩ := h
    refine ⟨_, (pss_cons (ps_fldK (K := K) rfl (pv 0) (pv 1) rfl)
      (pss_one (ps_fldK (K := K) rfl (pv 0) (pv 2) rfl))), ?_⟩
    walk_at "go"
    rename_i H1 m1 o1 H2 m2 o2
    exact q _ (mu_two m1 m2) o2
theorem sc_Sum___init__ : FnScope ["self", "row", "carries"] ["self", "row", "carries"] (defScope s_Sum___init__) := ⟨rfl, rfl, rfl, by decide +kernel, rfl, by decide +kernel, by decide +kernel⟩
def sp_Sum_init (c : Nat → Addr) : Sp := fun vs H Q _ => ∃ (x dx p r : Addr) (ns ms : List Int), vs = [.ref x, .ref p, .ref r] ∧ OB H x (.ins (c 3) dx []) ∧ OB H p (.lst (ns.map V.int)) ∧ OB H r (.lst (ms.map V.int)) ∧ NE r x ∧
  ∀ H' r1 r2, MU H' H x → FR0 H r1 → FR0 H r2 → NE r1 r2 → OB H' x (.ins (c 3) dx [("row", .ref r1), ("carries", .ref r2)]) → OB H' r1 (.lst (ns.map V.int)) → OB H' r2 (.lst (ms.map V.int)) → Q .non H'
theorem go_Sum_init {c : Nat → Addr} {x dx p r xs ys ns ms H Q E} [o : OB H x (.ins (c 3) dx [])] [o1 : OB H p (.lst xs)] [e1 : ILs xs ns] [o2 : OB H r (.lst ys)] [e2 : ILs ys ms] [nr : NE r x]
  (q : ∀ H' r1 r2, MU H' H x → FR0 H r1 → FR0 H r2 → NE r1 r2 → OB H' x (.ins (c 3) dx [("row", .ref r1), ("carries", .ref r2)]) → OB H' r1 (.lst (ns.map V.int)) → OB H' r2 (.lst (ms.map V.int)) → Q .non H') : sp_Sum_init c [.ref x, .ref p, .ref r] H Q E := ⟨x, dx, p, r, ns, ms, rfl, o, ob_ints e1 o1, ob_ints e2 o2, nr, q⟩
theorem oki_Sum (T : Top K mg c) : FnI P w K mg base (c 3) ["self", "row", "carries"] 1 (sp_Sum_init c) := by
  have iO_Writes : OwnI K (c 1) := ⟨T.o_Writes⟩
  have iA_Writes_number : NoaI K (c 1) "number" := ⟨T.a_Writes_number⟩
  have iK_Writes_Writes : KitI K (c 1) (c 1) true := ⟨T.q_Writes.kit T.k_Writes_Writes.1 T.k_Writes_Writes.2⟩
  have iO_Breaks : OwnI K (c 2) := ⟨T.o_Breaks⟩
  have iA_Breaks_place : NoaI K (c 2) "place" := ⟨T.a_Breaks_place⟩
  have iA_Breaks_left : NoaI K (c 2) "left" := ⟨T.a_Breaks_left⟩
  have iK_Breaks_Writes : KitI K (c 2) (c 1) false := ⟨T.q_Writes.kit T.k_Breaks_Writes.1 T.k_Breaks_Writes.2⟩
  have iO_Sum : OwnI K (c 3) := ⟨T.o_Sum⟩
  have iA_Sum_row : NoaI K (c 3) "row" := ⟨T.a_Sum_row⟩
  have iA_Sum_carries : NoaI K (c 3) "carries" := ⟨T.a_Sum_carries⟩
  have iK_Sum_Writes : KitI K (c 3) (c 1) false := ⟨T.q_Writes.kit T.k_Sum_Writes.1 T.k_Sum_Writes.2⟩
  have iO_Times : OwnI K (c 4) := ⟨T.o_Times⟩
  have iA_Times_row : NoaI K (c 4) "row" := ⟨T.a_Times_row⟩
  have iA_Times_carries : NoaI K (c 4) "carries" := ⟨T.a_Times_carries⟩
  have iK_Times_Writes : KitI K (c 4) (c 1) false := ⟨T.q_Writes.kit T.k_Times_Writes.1 T.k_Times_Writes.2⟩
  refine T.i_Sum.ok sc_Sum___init__ (fun vs H Q E h => ?_) (fun f cdv A outer s H vs Q E hr h => ?_)
  · obtain ⟨x, dx, p, r, ns, ms, rfl, o, o1, o2, nr, q⟩ := h
    rfl
  · obtain ⟨x, dx, p, r, ns, ms, rfl, o, o1, o2, nr, q⟩ := h
    refine ⟨_, (pss_cons (ps_fldK (K := K) rfl (pv 0) (pe_callTy cr_listB rfl T.n_list (by decide +kernel) (pa_cons (pv 1) pa_nil)) rfl)
      (pss_one (ps_fldK (K := K) rfl (pv 0) (pe_callTy cr_listB rfl T.n_list (by decide +kernel) (pa_cons (pv 2) pa_nil)) rfl))), ?_⟩
    walk_at "go"
    rename_i p1 H1 s1 f1 u1 H2 m2 x2 p3 H3 s3 f3 u3 H4 m4 x4
    have n1 : NE p1 p3 := inferInstance
    exact q _ p1 p3 ⟨fun b o n h => m4.s _ _ n (s3.s _ _ (m2.s _ _ n (s1.s _ _ h)))⟩ f1 (have h := frmu0 f3 m2 x2; frx (M := H1)) n1 x4 inferInstance inferInstance
theorem sc_Times___init__ : FnScope ["self", "row", "carries"] ["self", "row", "carries"] (defScope s_Times___init__) := ⟨rfl, rfl, rfl, by decide +kernel, rfl, by decide +kernel, by decide +kernel⟩
def sp_Times_init (c : Nat → Addr) : Sp := fun vs H Q _ => ∃ (x dx p r : Addr) (ns ms : List Int), vs = [.ref x, .ref p, .ref r] ∧ OB H x (.ins (c 4) dx []) ∧ OB H p (.lst (ns.map V.int)) ∧ OB H r (.lst (ms.map V.int)) ∧ NE r x ∧
  ∀ H' r1 r2, MU H' H x → FR0 H r1 → FR0 H r2 → NE r1 r2 → OB H' x (.ins (c 4) dx [("row", .ref r1), ("carries", .ref r2)]) → OB H' r1 (.lst (ns.map V.int)) → OB H' r2 (.lst (ms.map V.int)) → Q .non H'
theorem go_Times_init {c : Nat → Addr} {x dx p r xs ys ns ms H Q E} [o : OB H x (.ins (c 4) dx [])] [o1 : OB H p (.lst xs)] [e1 : ILs xs ns] [o2 : OB H r (.lst ys)] [e2 : ILs ys ms] [nr : NE r x]
  (q : ∀ H' r1 r2, MU H' H x → FR0 H r1 → FR0 H r2 → NE r1 r2 → OB H' x (.ins (c 4) dx [("row", .ref r1), ("carries", .ref r2)]) → OB H' r1 (.lst (ns.map V.int)) → OB H' r2 (.lst (ms.map V.int)) → Q .non H') : sp_Times_init c [.ref x, .ref p, .ref r] H Q E := ⟨x, dx, p, r, ns, ms, rfl, o, ob_ints e1 o1, ob_ints e2 o2, nr, q⟩
theorem oki_Times (T : Top K mg c) : FnI P w K mg base (c 4) ["self", "row", "carries"] 1 (sp_Times_init c) := by
  have iO_Writes : OwnI K (c 1) := ⟨T.o_Writes⟩
  have iA_Writes_number : NoaI K (c 1) "number" := ⟨T.a_Writes_number⟩
  have iK_Writes_Writes : KitI K (c 1) (c 1) true := ⟨T.q_Writes.kit T.k_Writes_Writes.1 T.k_Writes_Writes.2⟩
  have iO_Breaks : OwnI K (c 2) := ⟨T.o_Breaks⟩
  have iA_Breaks_place : NoaI K (c 2) "place" := ⟨T.a_Breaks_place⟩
  have iA_Breaks_left : NoaI K (c 2) "left" := ⟨T.a_Breaks_left⟩
  have iK_Breaks_Writes : KitI K (c 2) (c 1) false := ⟨T.q_Writes.kit T.k_Breaks_Writes.1 T.k_Breaks_Writes.2⟩
  have iO_Sum : OwnI K (c 3) := ⟨T.o_Sum⟩
  have iA_Sum_row : NoaI K (c 3) "row" := ⟨T.a_Sum_row⟩
  have iA_Sum_carries : NoaI K (c 3) "carries" := ⟨T.a_Sum_carries⟩
  have iK_Sum_Writes : KitI K (c 3) (c 1) false := ⟨T.q_Writes.kit T.k_Sum_Writes.1 T.k_Sum_Writes.2⟩
  have iO_Times : OwnI K (c 4) := ⟨T.o_Times⟩
  have iA_Times_row : NoaI K (c 4) "row" := ⟨T.a_Times_row⟩
  have iA_Times_carries : NoaI K (c 4) "carries" := ⟨T.a_Times_carries⟩
  have iK_Times_Writes : KitI K (c 4) (c 1) false := ⟨T.q_Writes.kit T.k_Times_Writes.1 T.k_Times_Writes.2⟩
  refine T.i_Times.ok sc_Times___init__ (fun vs H Q E h => ?_) (fun f cdv A outer s H vs Q E hr h => ?_)
  · obtain ⟨x, dx, p, r, ns, ms, rfl, o, o1, o2, nr, q⟩ := h
    rfl
  · obtain ⟨x, dx, p, r, ns, ms, rfl, o, o1, o2, nr, q⟩ := h
    refine ⟨_, (pss_cons (ps_fldK (K := K) rfl (pv 0) (pe_callTy cr_listB rfl T.n_list (by decide +kernel) (pa_cons (pv 1) pa_nil)) rfl)
      (pss_one (ps_fldK (K := K) rfl (pv 0) (pe_callTy cr_listB rfl T.n_list (by decide +kernel) (pa_cons (pv 2) pa_nil)) rfl))), ?_⟩
    walk_at "go"
    rename_i p1 H1 s1 f1 u1 H2 m2 x2 p3 H3 s3 f3 u3 H4 m4 x4
    have n1 : NE p1 p3 := inferInstance
    exact q _ p1 p3 ⟨fun b o n h => m4.s _ _ n (s3.s _ _ (m2.s _ _ n (s1.s _ _ h)))⟩ f1 (have h := frmu0 f3 m2 x2; frx (M := H1)) n1 x4 inferInstance inferInstance
theorem sc_Writes_shows : FnScope ["self", "base", "row"] ["self", "base", "row"] (defScope s_Writes_shows) := ⟨rfl, rfl, rfl, by decide +kernel, rfl, by decide +kernel, by decide +kernel⟩
def sp_Writes_shows (c : Nat → Addr) : Sp := fun vs H Q _ => ∃ (x dx t p : Addr) (a b n : Int) (ns : List Int), vs = [.ref x, .ref t, .ref p] ∧ OB H x (.ins (c 1) dx [("number", .int n)]) ∧ OB H t (.tup [.int a, .int b]) ∧ 1 ≤ a ∧ a ≤ 60 ∧ 1 ≤ b ∧ b ≤ 60 ∧ OB H p (.lst (ns.map V.int)) ∧ ns.length ≤ 3000 ∧ (∀ x ∈ ns, x.natAbs < 2 ^ 64) ∧ ∀ H', SM H' H → Q (.bl (decide ((readF a b 0 0 ns).1 = n ∧ (readF a b 0 0 ns).2 = -1))) H'
theorem go_Writes_shows {c : Nat → Addr} {x dx t p : Addr} {a b n : Int} {xs : List V} {ns : List Int} {H : Hp} {Q : VK} {E : XK} [o0 : OB H x (.ins (c 1) dx [("number", .int n)])] [o : OB H t (.tup [.int a, .int b])] [o2 : OB H p (.lst xs)] [e : ILs xs ns] (a1 : 1 ≤ a) (a6 : a ≤ 60) (b1 : 1 ≤ b) (b6 : b ≤ 60) (hl : ns.length ≤ 3000) (hx : ∀ x ∈ ns, x.natAbs < 2 ^ 64) (q : ∀ H', SM H' H → Q (.bl (decide ((readF a b 0 0 ns).1 = n ∧ (readF a b 0 0 ns).2 = -1))) H') : sp_Writes_shows c [.ref x, .ref t, .ref p] H Q E := ⟨x, dx, t, p, a, b, n, ns, rfl, o0, o, a1, a6, b1, b6, ob_ints e o2, hl, hx, q⟩
theorem okm_Writes (T : Top K mg c) : FnM P w K mg base (c 1) "shows" ["self", "base", "row"] 2 (sp_Writes_shows c) := by
  have F_read := ok_read (P := P) (w := w) (base := base) T
  have iO_Writes : OwnI K (c 1) := ⟨T.o_Writes⟩
  have iA_Writes_number : NoaI K (c 1) "number" := ⟨T.a_Writes_number⟩
  have iK_Writes_Writes : KitI K (c 1) (c 1) true := ⟨T.q_Writes.kit T.k_Writes_Writes.1 T.k_Writes_Writes.2⟩
  have iO_Breaks : OwnI K (c 2) := ⟨T.o_Breaks⟩
  have iA_Breaks_place : NoaI K (c 2) "place" := ⟨T.a_Breaks_place⟩
  have iA_Breaks_left : NoaI K (c 2) "left" := ⟨T.a_Breaks_left⟩
  have iK_Breaks_Writes : KitI K (c 2) (c 1) false := ⟨T.q_Writes.kit T.k_Breaks_Writes.1 T.k_Breaks_Writes.2⟩
  have iO_Sum : OwnI K (c 3) := ⟨T.o_Sum⟩
  have iA_Sum_row : NoaI K (c 3) "row" := ⟨T.a_Sum_row⟩
  have iA_Sum_carries : NoaI K (c 3) "carries" := ⟨T.a_Sum_carries⟩
  have iK_Sum_Writes : KitI K (c 3) (c 1) false := ⟨T.q_Writes.kit T.k_Sum_Writes.1 T.k_Sum_Writes.2⟩
  have iO_Times : OwnI K (c 4) := ⟨T.o_Times⟩
  have iA_Times_row : NoaI K (c 4) "row" := ⟨T.a_Times_row⟩
  have iA_Times_carries : NoaI K (c 4) "carries" := ⟨T.a_Times_carries⟩
  have iK_Times_Writes : KitI K (c 4) (c 1) false := ⟨T.q_Writes.kit T.k_Times_Writes.1 T.k_Times_Writes.2⟩
  refine T.w_Writes.ok sc_Writes_shows (fun vs H Q E h => ?_) (fun f cdv A outer s H vs Q E hr h => ?_)
  · obtain ⟨x, dx, t, p, a, b, n, ns, rfl, o0, o, a1, a6, b1, b6, o2, hl, hx, q⟩ := h
    rfl
  · obtain ⟨x, dx, t, p, a, b, n, ns, rfl, o0, o, a1, a6, b1, b6, o2, hl, hx, q⟩ := h
    refine ⟨_, (pss_one (ps_ret (pe_cmpR (op_eqB (K := K) rfl hr.units) (pe_fn F_read hr rfl (pa_cons (pv 1) (pa_cons (pv 2) pa_nil))) (pe_tupB (pa_cons (pe_fldK (K := K) rfl (pv 0) rfl) (pa_cons (pe_un un_neg pe_int) pa_nil))) (nomark _)))), ?_⟩
    walk_at "go"
    refine go_read a1 a6 b1 b6 hl hx ?_
    intro p1 H1 s1 f1 o1
    walk_at "go"
    exact q _ smx
theorem sc_Breaks_shows : FnScope ["self", "base", "row"] ["self", "base", "row"] (defScope s_Breaks_shows) := ⟨rfl, rfl, rfl, by decide +kernel, rfl, by decide +kernel, by decide +kernel⟩
def sp_Breaks_shows (c : Nat → Addr) : Sp := fun vs H Q _ => ∃ (x dx t p : Addr) (a b n m : Int) (ns : List Int), vs = [.ref x, .ref t, .ref p] ∧ OB H x (.ins (c 2) dx [("place", .int n), ("left", .int m)]) ∧ OB H t (.tup [.int a, .int b]) ∧ 1 ≤ a ∧ a ≤ 60 ∧ 1 ≤ b ∧ b ≤ 60 ∧ OB H p (.lst (ns.map V.int)) ∧ ns.length ≤ 3000 ∧ (∀ x ∈ ns, x.natAbs < 2 ^ 64) ∧ ∀ H', SM H' H → Q (.bl (decide (0 ≤ n) && decide ((readF a b 0 0 ns).1 = m ∧ (readF a b 0 0 ns).2 = n))) H'
theorem go_Breaks_shows {c : Nat → Addr} {x dx t p : Addr} {a b n m : Int} {xs : List V} {ns : List Int} {H : Hp} {Q : VK} {E : XK} [o0 : OB H x (.ins (c 2) dx [("place", .int n), ("left", .int m)])] [o : OB H t (.tup [.int a, .int b])] [o2 : OB H p (.lst xs)] [e : ILs xs ns] (a1 : 1 ≤ a) (a6 : a ≤ 60) (b1 : 1 ≤ b) (b6 : b ≤ 60) (hl : ns.length ≤ 3000) (hx : ∀ x ∈ ns, x.natAbs < 2 ^ 64) (q : ∀ H', SM H' H → Q (.bl (decide (0 ≤ n) && decide ((readF a b 0 0 ns).1 = m ∧ (readF a b 0 0 ns).2 = n))) H') : sp_Breaks_shows c [.ref x, .ref t, .ref p] H Q E := ⟨x, dx, t, p, a, b, n, m, ns, rfl, o0, o, a1, a6, b1, b6, ob_ints e o2, hl, hx, q⟩
theorem okm_Breaks (T : Top K mg c) : FnM P w K mg base (c 2) "shows" ["self", "base", "row"] 2 (sp_Breaks_shows c) := by
  have F_read := ok_read (P := P) (w := w) (base := base) T
  have iO_Writes : OwnI K (c 1) := ⟨T.o_Writes⟩
  have iA_Writes_number : NoaI K (c 1) "number" := ⟨T.a_Writes_number⟩
  have iK_Writes_Writes : KitI K (c 1) (c 1) true := ⟨T.q_Writes.kit T.k_Writes_Writes.1 T.k_Writes_Writes.2⟩
  have iO_Breaks : OwnI K (c 2) := ⟨T.o_Breaks⟩
  have iA_Breaks_place : NoaI K (c 2) "place" := ⟨T.a_Breaks_place⟩
  have iA_Breaks_left : NoaI K (c 2) "left" := ⟨T.a_Breaks_left⟩
  have iK_Breaks_Writes : KitI K (c 2) (c 1) false := ⟨T.q_Writes.kit T.k_Breaks_Writes.1 T.k_Breaks_Writes.2⟩
  have iO_Sum : OwnI K (c 3) := ⟨T.o_Sum⟩
  have iA_Sum_row : NoaI K (c 3) "row" := ⟨T.a_Sum_row⟩
  have iA_Sum_carries : NoaI K (c 3) "carries" := ⟨T.a_Sum_carries⟩
  have iK_Sum_Writes : KitI K (c 3) (c 1) false := ⟨T.q_Writes.kit T.k_Sum_Writes.1 T.k_Sum_Writes.2⟩
  have iO_Times : OwnI K (c 4) := ⟨T.o_Times⟩
  have iA_Times_row : NoaI K (c 4) "row" := ⟨T.a_Times_row⟩
  have iA_Times_carries : NoaI K (c 4) "carries" := ⟨T.a_Times_carries⟩
  have iK_Times_Writes : KitI K (c 4) (c 1) false := ⟨T.q_Writes.kit T.k_Times_Writes.1 T.k_Times_Writes.2⟩
  refine T.w_Breaks.ok sc_Breaks_shows (fun vs H Q E h => ?_) (fun f cdv A outer s H vs Q E hr h => ?_)
  · obtain ⟨x, dx, t, p, a, b, n, m, ns, rfl, o0, o, a1, a6, b1, b6, o2, hl, hx, q⟩ := h
    rfl
  · obtain ⟨x, dx, t, p, a, b, n, m, ns, rfl, o0, o, a1, a6, b1, b6, o2, hl, hx, q⟩ := h
    refine ⟨_, (pss_one (ps_ret (pe_and (pe_cmpR op_ge (pe_fldK (K := K) rfl (pv 0) rfl) pe_int (nomark _)) (pe_one (pe_cmpR (op_eqB (K := K) rfl hr.units) (pe_fn F_read hr rfl (pa_cons (pv 1) (pa_cons (pv 2) pa_nil))) (pe_tupB (pa_cons (pe_fldK (K := K) rfl (pv 0) rfl) (pa_cons (pe_fldK (K := K) rfl (pv 0) rfl) pa_nil))) (nomark _)))))), ?_⟩
    walk_at "go"
    refine rd_D (fun h => ?_) (fun h => ?_)
    · walk_at "go"
      refine go_read a1 a6 b1 b6 hl hx ?_
      intro p1 H1 s1 f1 o1
      walk_at "go"
      have q := fun H' s => q H' s
      simp only [decide_eq_true h, Bool.true_and] at q
      exact q _ smx
    · walk_at "go"
      have := q H smx
      rw [decide_eq_false h, Bool.false_and] at this
      exact this
theorem sc_Sum_shows : FnScope ["self", "base", "one", "other"] ["self", "base", "one", "other"] (defScope s_Sum_shows) := ⟨rfl, rfl, rfl, by decide +kernel, rfl, by decide +kernel, by decide +kernel⟩
def sp_Sum_shows (c : Nat → Addr) : Sp := fun vs H Q _ => ∃ (x dx r1 r2 t p r : Addr) (a b n m : Int) (rs cs ns ms : List Int), vs = [.ref x, .ref t, .ref p, .ref r] ∧ OB H x (.ins (c 3) dx [("row", .ref r1), ("carries", .ref r2)]) ∧ OB H r1 (.lst (rs.map V.int)) ∧ OB H r2 (.lst (cs.map V.int)) ∧ OB H t (.tup [.int a, .int b]) ∧ GB a b ∧ OB H p (.lst (ns.map V.int)) ∧ OB H r (.lst (ms.map V.int)) ∧ figs a ns = true ∧ ns.length ≤ 1000 ∧ rdo a b 0 ns = some n ∧ figs a ms = true ∧ ms.length ≤ 1000 ∧ rdo a b 0 ms = some m ∧ rs.length ≤ 50000 ∧ cs.length ≤ 50000 ∧
  ∀ H', SM H' H → Q (.bl (decide (rs = row a b (n + m) ∧ cs = addC a b n m))) H'
theorem go_Sum_shows {c : Nat → Addr} {x dx r1 r2 t p r : Addr} {a b n m : Int} {xs ys us zs : List V} {rs cs ns ms : List Int} {H : Hp} {Q : VK} {E : XK} [o0 : OB H x (.ins (c 3) dx [("row", .ref r1), ("carries", .ref r2)])] [o1 : OB H r1 (.lst us)] [e1 : ILs us rs] [o2 : OB H r2 (.lst zs)] [e2 : ILs zs cs] [o : OB H t (.tup [.int a, .int b])] [o3 : OB H p (.lst xs)] [e3 : ILs xs ns] [o4 : OB H r (.lst ys)] [e4 : ILs ys ms] (g : GB a b) (hf : figs a ns = true) (hl : ns.length ≤ 1000) (hw : rdo a b 0 ns = some n) (hf2 : figs a ms = true) (hl2 : ms.length ≤ 1000) (hw2 : rdo a b 0 ms = some m) (hl3 : rs.length ≤ 50000) (hl4 : cs.length ≤ 50000)
  (q : ∀ H', SM H' H → Q (.bl (decide (rs = row a b (n + m) ∧ cs = addC a b n m))) H') : sp_Sum_shows c [.ref x, .ref t, .ref p, .ref r] H Q E := ⟨x, dx, r1, r2, t, p, r, a, b, n, m, rs, cs, ns, ms, rfl, o0, ob_ints e1 o1, ob_ints e2 o2, o, g, ob_ints e3 o3, ob_ints e4 o4, hf, hl, hw, hf2, hl2, hw2, hl3, hl4, q⟩
theorem okm_Sum (T : Top K mg c) : FnM P w K mg base (c 3) "shows" ["self", "base", "one", "other"] 4 (sp_Sum_shows c) := by
  have F_carried := ok_carried (P := P) (w := w) (base := base) T
  have F_summed := ok_summed (P := P) (w := w) (base := base) T
  have F_plain := ok_plain (P := P) (w := w) (base := base) T
  have iO_Writes : OwnI K (c 1) := ⟨T.o_Writes⟩
  have iA_Writes_number : NoaI K (c 1) "number" := ⟨T.a_Writes_number⟩
  have iK_Writes_Writes : KitI K (c 1) (c 1) true := ⟨T.q_Writes.kit T.k_Writes_Writes.1 T.k_Writes_Writes.2⟩
  have iO_Breaks : OwnI K (c 2) := ⟨T.o_Breaks⟩
  have iA_Breaks_place : NoaI K (c 2) "place" := ⟨T.a_Breaks_place⟩
  have iA_Breaks_left : NoaI K (c 2) "left" := ⟨T.a_Breaks_left⟩
  have iK_Breaks_Writes : KitI K (c 2) (c 1) false := ⟨T.q_Writes.kit T.k_Breaks_Writes.1 T.k_Breaks_Writes.2⟩
  have iO_Sum : OwnI K (c 3) := ⟨T.o_Sum⟩
  have iA_Sum_row : NoaI K (c 3) "row" := ⟨T.a_Sum_row⟩
  have iA_Sum_carries : NoaI K (c 3) "carries" := ⟨T.a_Sum_carries⟩
  have iK_Sum_Writes : KitI K (c 3) (c 1) false := ⟨T.q_Writes.kit T.k_Sum_Writes.1 T.k_Sum_Writes.2⟩
  have iO_Times : OwnI K (c 4) := ⟨T.o_Times⟩
  have iA_Times_row : NoaI K (c 4) "row" := ⟨T.a_Times_row⟩
  have iA_Times_carries : NoaI K (c 4) "carries" := ⟨T.a_Times_carries⟩
  have iK_Times_Writes : KitI K (c 4) (c 1) false := ⟨T.q_Writes.kit T.k_Times_Writes.1 T.k_Times_Writes.2⟩
  refine T.w_Sum.ok sc_Sum_shows (fun vs H Q E h => ?_) (fun f cdv A outer s H vs Q E hr h => ?_)
  · obtain ⟨x, dx, r1, r2, t, p, r, a, b, n, m, rs, cs, ns, ms, rfl, o0, o1, o2, o, g, o3, o4, hf, hl, hw, hf2, hl2, hw2, hl3, hl4, q⟩ := h
    rfl
  · obtain ⟨x, dx, r1, r2, t, p, r, a, b, n, m, rs, cs, ns, ms, rfl, o0, o1, o2, o, g, o3, o4, hf, hl, hw, hf2, hl2, hw2, hl3, hl4, q⟩ := h
    refine ⟨_, (pss_one (ps_ret (pe_fn F_carried hr rfl (pa_cons (pv 1) (pa_cons (pe_fn F_summed hr rfl (pa_cons (pe_fn F_plain hr rfl (pa_cons (pv 2) pa_nil)) (pa_cons (pe_fn F_plain hr rfl (pa_cons (pv 3) pa_nil)) pa_nil))) (pa_cons (pe_fldK (K := K) rfl (pv 0) rfl) (pa_cons (pe_fldK (K := K) rfl (pv 0) rfl) pa_nil))))))), ?_⟩
    have gg := g.ok
    have n0 := rdo_nn (by omega) (by omega) _ _ _ (Int.le_refl 0) hf hw
    have m0 := rdo_nn (by omega) (by omega) _ _ _ (Int.le_refl 0) hf2 hw2
    have e1 := plain_row g hf hw
    have e2 := plain_row g hf2 hw2
    have l1 := plainF_len ns
    have l2 := plainF_len ms
    have z1 := row_fig g.b1 g.ba n n0
    have z2 := row_fig g.b1 g.ba m m0
    walk_at "go"
    refine go_plain (by omega) ?_
    intro p4 H4 s4 f4 o4
    walk_at "go"
    refine go_plain (by omega) ?_
    intro p5 H5 s5 f5 o5
    walk_at "go"
    refine go_summed (by omega) (by omega) ?_
    rw [e1, e2]
    rw [e1] at l1
    rw [e2] at l2
    intro p6 H6 s6 f6 o6
    walk_at "go"
    have hz := addZ_mem (B := 60) (C := 60) (by decide) (by decide) (row a b n).reverse (row a b m).reverse (fun x hx => by have := z1 x (List.mem_reverse.mp hx); omega) (fun x hx => by have := z2 x (List.mem_reverse.mp hx); omega)
    refine go_carried g (add_rep g n0 m0) (by rw [addZ_len, List.length_reverse, List.length_reverse]; omega) hl3 hl4 (fun x hx => by have := hz x hx; omega) fun H7 s7 => ?_
    rw [add_row g n0 m0]
    exact q _ smx
theorem sc_Times_shows : FnScope ["self", "base", "row", "factor", "sums", "figure"] ["self", "base", "row", "factor"] (defScope s_Times_shows) := ⟨rfl, rfl, rfl, by decide +kernel, rfl, by decide +kernel, by decide +kernel⟩
def sp_Times_shows (c : Nat → Addr) : Sp := fun vs H Q _ => ∃ (x dx r1 r2 t p : Addr) (a b n f : Int) (rs cs ns : List Int), vs = [.ref x, .ref t, .ref p, .int f] ∧ OB H x (.ins (c 4) dx [("row", .ref r1), ("carries", .ref r2)]) ∧ OB H r1 (.lst (rs.map V.int)) ∧ OB H r2 (.lst (cs.map V.int)) ∧ OB H t (.tup [.int a, .int b]) ∧ GB a b ∧ OB H p (.lst (ns.map V.int)) ∧ figs a ns = true ∧ ns.length ≤ 1000 ∧ rdo a b 0 ns = some n ∧ 0 ≤ f ∧ f ≤ 1000 ∧ rs.length ≤ 50000 ∧ cs.length ≤ 50000 ∧
  ∀ H', SM H' H → Q (.bl (decide (rs = row a b (f * n) ∧ cs = mulC a b f n))) H'
theorem go_Times_shows {c : Nat → Addr} {x dx r1 r2 t p : Addr} {a b n f : Int} {xs us zs : List V} {rs cs ns : List Int} {H : Hp} {Q : VK} {E : XK} [o0 : OB H x (.ins (c 4) dx [("row", .ref r1), ("carries", .ref r2)])] [o1 : OB H r1 (.lst us)] [e1 : ILs us rs] [o2 : OB H r2 (.lst zs)] [e2 : ILs zs cs] [o : OB H t (.tup [.int a, .int b])] [o3 : OB H p (.lst xs)] [e3 : ILs xs ns] (g : GB a b) (hf : figs a ns = true) (hl : ns.length ≤ 1000) (hw : rdo a b 0 ns = some n) (f0 : 0 ≤ f) (f1 : f ≤ 1000) (hl3 : rs.length ≤ 50000) (hl4 : cs.length ≤ 50000)
  (q : ∀ H', SM H' H → Q (.bl (decide (rs = row a b (f * n) ∧ cs = mulC a b f n))) H') : sp_Times_shows c [.ref x, .ref t, .ref p, .int f] H Q E := ⟨x, dx, r1, r2, t, p, a, b, n, f, rs, cs, ns, rfl, o0, ob_ints e1 o1, ob_ints e2 o2, o, g, ob_ints e3 o3, hf, hl, hw, f0, f1, hl3, hl4, q⟩
theorem okm_Times (T : Top K mg c) : FnM P w K mg base (c 4) "shows" ["self", "base", "row", "factor"] 4 (sp_Times_shows c) := by
  have F_carried := ok_carried (P := P) (w := w) (base := base) T
  have F_plain := ok_plain (P := P) (w := w) (base := base) T
  have iO_Writes : OwnI K (c 1) := ⟨T.o_Writes⟩
  have iA_Writes_number : NoaI K (c 1) "number" := ⟨T.a_Writes_number⟩
  have iK_Writes_Writes : KitI K (c 1) (c 1) true := ⟨T.q_Writes.kit T.k_Writes_Writes.1 T.k_Writes_Writes.2⟩
  have iO_Breaks : OwnI K (c 2) := ⟨T.o_Breaks⟩
  have iA_Breaks_place : NoaI K (c 2) "place" := ⟨T.a_Breaks_place⟩
  have iA_Breaks_left : NoaI K (c 2) "left" := ⟨T.a_Breaks_left⟩
  have iK_Breaks_Writes : KitI K (c 2) (c 1) false := ⟨T.q_Writes.kit T.k_Breaks_Writes.1 T.k_Breaks_Writes.2⟩
  have iO_Sum : OwnI K (c 3) := ⟨T.o_Sum⟩
  have iA_Sum_row : NoaI K (c 3) "row" := ⟨T.a_Sum_row⟩
  have iA_Sum_carries : NoaI K (c 3) "carries" := ⟨T.a_Sum_carries⟩
  have iK_Sum_Writes : KitI K (c 3) (c 1) false := ⟨T.q_Writes.kit T.k_Sum_Writes.1 T.k_Sum_Writes.2⟩
  have iO_Times : OwnI K (c 4) := ⟨T.o_Times⟩
  have iA_Times_row : NoaI K (c 4) "row" := ⟨T.a_Times_row⟩
  have iA_Times_carries : NoaI K (c 4) "carries" := ⟨T.a_Times_carries⟩
  have iK_Times_Writes : KitI K (c 4) (c 1) false := ⟨T.q_Writes.kit T.k_Times_Writes.1 T.k_Times_Writes.2⟩
  refine T.w_Times.ok sc_Times_shows (fun vs H Q E h => ?_) (fun f cdv A outer s H vs Q E hr h => ?_)
  · obtain ⟨x, dx, r1, r2, t, p, a, b, n, f1, rs, cs, ns, rfl, o0, o1, o2, o, g, o3, hf, hl, hw, f0, f2, hl3, hl4, q⟩ := h
    rfl
  · obtain ⟨x, dx, r1, r2, t, p, a, b, n, f1, rs, cs, ns, rfl, o0, o1, o2, o, g, o3, hf, hl, hw, f0, f2, hl3, hl4, q⟩ := h
    refine ⟨_, (pss_cons (ps_set (i := 4) sc_Times_shows.nd rfl (Or.inl rfl) (pe_ifExp (pt_cmpR op_gt (pv 3) pe_int (nomark _)) (pe_lc (own := [("figure", 5)]) (g := gName 5) (tt := tYes) rfl sc_Times_shows.nd (pi_listK (K := K) rfl (pe_revB (pe_fn F_plain hr rfl (pa_cons (pv 2) pa_nil)))) (blkOk_by (own := [("figure", 5)]) (N := ["self", "base", "row", "factor", "sums", "figure"]) (sc := defScope s_Times_shows) (by decide +kernel)) (fun _ _ _ _ _ => (pg_name (i := 5) sc_Times_shows.nd rfl (Or.inl rfl))) (fun _ _ _ _ _ => pts_nil) (fun _ _ _ _ _ => (pe_op op_mulW (pv 3) (pv 5)))) (pe_lstB pa_nil)))
      (pss_one (ps_ret (pe_fn F_carried hr rfl (pa_cons (pv 1) (pa_cons (pv 4) (pa_cons (pe_fldK (K := K) rfl (pv 0) rfl) (pa_cons (pe_fldK (K := K) rfl (pv 0) rfl) pa_nil)))))))), ?_⟩
    have gg := g.ok
    have n0 := rdo_nn (by omega) (by omega) _ _ _ (Int.le_refl 0) hf hw
    have e1 := plain_row g hf hw
    have l1 := plainF_len ns
    have z1 := row_fig g.b1 g.ba n n0
    rw [e1] at l1
    have zs := sumT_mem (b := b) gg.2.1 f0 f2 z1
    have ls := sumT_len (a := a) (b := b) (f := f1) (n := n)
    walk_at "go"
    
    refine rd_D (fun hpos => ?_) (fun hpos => ?_)
    · walk_at "go"
      refine go_plain (by omega) ?_
      rw [e1]
      intro p4 H4 s4 f4 o4
      walk_at "go"
      rename_i p5 H5 s5 f5 o5
      refine lcMap (row a b n).reverse (fun x => .int (f1 * x)) (it_list (xs := ((row a b n).reverse).map V.int)) (by simp) (by rw [List.length_reverse]; omega) (fun H' s => OB.mono (a := s) (b := obl (o := o5))) ?_ ?_
      · rintro i x v H' H'' hi s ⟨rfl, hv⟩ Nt Nf ht
        have e : v = .int x := by
          rw [List.getElem?_map, hi] at hv
          exact (Option.some.inj hv).symm
        subst e
        have hxm := z1 x (List.mem_reverse.mp (List.mem_of_getElem? hi))
        have bx : Bd x := bd_s (by omega)
        have bf : Bd f1 := bd_s (by omega)
        walk_at "go"
        exact ht _ smx
      intro pS HS sS fS oS
      have oS' : OB HS pS (.lst ((sumT a b f1 n).map V.int)) := by
        unfold sumT
        rw [if_pos hpos, List.map_map]
        exact oS
      clear oS
      walk_at "go"
      refine go_carried g (sumT_rep g f0 n0) (by omega) hl3 hl4 (fun x hx => by have := zs x hx; omega) fun H7 s7 => ?_
      rw [mul_row g f0 n0]
      exact q _ smx
    · walk_at "go"
      rename_i pS HS sS fS oS
      have oS' : OB HS pS (.lst ((sumT a b f1 n).map V.int)) := by
        unfold sumT
        rw [if_neg hpos]
        exact oS
      clear oS
      walk_at "go"
      refine go_carried g (sumT_rep g f0 n0) (by omega) hl3 hl4 (fun x hx => by have := zs x hx; omega) fun H7 s7 => ?_
      rw [mul_row g f0 n0]
      exact q _ smx
theorem sc_judged : FnScope ["base", "row", "found", "place"] ["base", "row"] (defScope s_judged) := ⟨rfl, rfl, rfl, by decide +kernel, rfl, by decide +kernel, by decide +kernel⟩
def sp_judged (c : Nat → Addr) : Sp := fun vs H Q _ => ∃ t p a b ns, vs = [.ref t, .ref p] ∧ OB H t (.tup [.int a, .int b]) ∧ GB a b ∧ OB H p (.lst (ns.map V.int)) ∧ figs a ns = true ∧ ns.length ≤ 200 ∧
  (∀ n, rdo a b 0 ns = some n → ∀ dx, kNew Q (.ins (c 1) dx [("number", .int n)]) H) ∧ (rdo a b 0 ns = none → ∀ dx, kNew Q (.ins (c 2) dx [("place", .int (readF a b 0 0 ns).2), ("left", .int (readF a b 0 0 ns).1)]) H)
theorem go_judged {c : Nat → Addr} {t p a b xs ns H Q E} [o : OB H t (.tup [.int a, .int b])] [o2 : OB H p (.lst xs)] [e : ILs xs ns] (g : GB a b) (hf : figs a ns = true) (hl : ns.length ≤ 200) (q1 : ∀ n, rdo a b 0 ns = some n → ∀ dx, kNew Q (.ins (c 1) dx [("number", .int n)]) H) (q2 : rdo a b 0 ns = none → ∀ dx, kNew Q (.ins (c 2) dx [("place", .int (readF a b 0 0 ns).2), ("left", .int (readF a b 0 0 ns).1)]) H) : sp_judged c [.ref t, .ref p] H Q E := ⟨t, p, a, b, ns, rfl, o, g, ob_ints e o2, hf, hl, q1, q2⟩
theorem ok_judged (T : Top K mg c) : Fn P w K mg base "judged" ["base", "row"] 4 (sp_judged c) := by
  have F_check_base := ok_check_base (P := P) (w := w) (base := base) T
  have F_check_row := ok_check_row (P := P) (w := w) (base := base) T
  have F_read := ok_read (P := P) (w := w) (base := base) T
  have I_Writes := oki_Writes (P := P) (w := w) (base := base) T
  have I_Breaks := oki_Breaks (P := P) (w := w) (base := base) T
  have iO_Writes : OwnI K (c 1) := ⟨T.o_Writes⟩
  have iA_Writes_number : NoaI K (c 1) "number" := ⟨T.a_Writes_number⟩
  have iK_Writes_Writes : KitI K (c 1) (c 1) true := ⟨T.q_Writes.kit T.k_Writes_Writes.1 T.k_Writes_Writes.2⟩
  have iO_Breaks : OwnI K (c 2) := ⟨T.o_Breaks⟩
  have iA_Breaks_place : NoaI K (c 2) "place" := ⟨T.a_Breaks_place⟩
  have iA_Breaks_left : NoaI K (c 2) "left" := ⟨T.a_Breaks_left⟩
  have iK_Breaks_Writes : KitI K (c 2) (c 1) false := ⟨T.q_Writes.kit T.k_Breaks_Writes.1 T.k_Breaks_Writes.2⟩
  have iO_Sum : OwnI K (c 3) := ⟨T.o_Sum⟩
  have iA_Sum_row : NoaI K (c 3) "row" := ⟨T.a_Sum_row⟩
  have iA_Sum_carries : NoaI K (c 3) "carries" := ⟨T.a_Sum_carries⟩
  have iK_Sum_Writes : KitI K (c 3) (c 1) false := ⟨T.q_Writes.kit T.k_Sum_Writes.1 T.k_Sum_Writes.2⟩
  have iO_Times : OwnI K (c 4) := ⟨T.o_Times⟩
  have iA_Times_row : NoaI K (c 4) "row" := ⟨T.a_Times_row⟩
  have iA_Times_carries : NoaI K (c 4) "carries" := ⟨T.a_Times_carries⟩
  have iK_Times_Writes : KitI K (c 4) (c 1) false := ⟨T.q_Writes.kit T.k_Times_Writes.1 T.k_Times_Writes.2⟩
  refine T.f_judged.ok sc_judged (fun vs H Q E h => ?_) (fun f cdv A outer s H vs Q E hr h => ?_)
  · obtain ⟨t, p, a, b, ns, rfl, o, g, o2, hf, hl, q1, q2⟩ := h
    rfl
  · obtain ⟨t, p, a, b, ns, rfl, o, g, o2, hf, hl, q1, q2⟩ := h
    refine ⟨_, (pss_cons (ps_expr (pe_fn F_check_base hr rfl (pa_cons (pv 0) pa_nil)))
      (pss_cons (ps_expr (pe_fn F_check_row hr rfl (pa_cons (pv 0) (pa_cons (pv 1) pa_nil))))
      (pss_cons (ps_asg (pe_fn F_read hr rfl (pa_cons (pv 0) (pa_cons (pv 1) pa_nil))) (pg_tupB (n := 2) rfl (pgs_cons (pg_name (i := 2) sc_judged.nd rfl (Or.inl rfl)) (pgs_cons (pg_name (i := 3) sc_judged.nd rfl (Or.inl rfl)) pgs_nil))))
      (pss_one (ps_ret (pe_ifExp (pt_cmpR op_lt (pv 3) pe_int (nomark _)) (pe_mk I_Writes hr rfl T.m_Writes (pa_cons (pv 2) pa_nil)) (pe_mk I_Breaks hr rfl T.m_Breaks (pa_cons (pv 3) (pa_cons (pv 2) pa_nil))))))))), ?_⟩
    have gg := g.ok
    walk_at "go"
    refine go_check_base g fun H1 s1 => ?_
    walk_at "go"
    refine go_check_row hf hl fun H2 s2 => ?_
    walk_at "go"
    refine go_read (by omega) (by omega) (by omega) (by omega) (by omega) (fun x hx => by have := figs_mem hf hx; omega) ?_
    cases hr : rdo a b 0 ns with
    | some n =>
      rw [readF_ok ns 0 n 0 hr]
      intro t3 H3 s3 f3 o3
      walk_at "go"
      refine go_Writes_init fun H5 m5 o5 => ⟨rfl, ?_⟩
      exact kret (q1 n hr _)
    | none =>
      have hp := readF_bad ns 0 0 (Int.le_refl 0) hr
      have q2 := q2 hr
      generalize readF a b 0 0 ns = rr at hp q2 ⊢
      obtain ⟨r1, r2⟩ := rr
      intro t3 H3 s3 f3 o3
      have hp : 0 ≤ r2 := hp
      walk_at "go"
      refine go_Breaks_init fun H5 m5 o5 => ⟨rfl, ?_⟩
      exact kret (q2 _)
theorem sc_worth : FnScope ["base", "row", "top", "bottom", "figure", "shared"] ["base", "row"] (defScope s_worth) := ⟨rfl, rfl, rfl, by decide +kernel, rfl, by decide +kernel, by decide +kernel⟩
def sp_worth : Sp := fun vs H Q _ => ∃ t p a b ns, vs = [.ref t, .ref p] ∧ OB H t (.tup [.int a, .int b]) ∧ GB a b ∧ OB H p (.lst (ns.map V.int)) ∧ figs a ns = true ∧ ns.length ≤ 200 ∧ kNew Q (.tup [.int (red (topF a b 0 1 ns) (b ^ ns.length)).1, .int (red (topF a b 0 1 ns) (b ^ ns.length)).2]) H
theorem go_worth {t p a b xs ns H Q E} [o : OB H t (.tup [.int a, .int b])] [o2 : OB H p (.lst xs)] [e : ILs xs ns] (g : GB a b) (hf : figs a ns = true) (hl : ns.length ≤ 200) (q : kNew Q (.tup [.int (red (topF a b 0 1 ns) (b ^ ns.length)).1, .int (red (topF a b 0 1 ns) (b ^ ns.length)).2]) H) : sp_worth [.ref t, .ref p] H Q E := ⟨t, p, a, b, ns, rfl, o, g, ob_ints e o2, hf, hl, q⟩
theorem ok_worth (T : Top K mg c) : Fn P w K mg base "worth" ["base", "row"] 4 sp_worth := by
  have F_check_base := ok_check_base (P := P) (w := w) (base := base) T
  have F_check_row := ok_check_row (P := P) (w := w) (base := base) T
  have F_common := ok_common (P := P) (w := w) (base := base) T
  have iO_Writes : OwnI K (c 1) := ⟨T.o_Writes⟩
  have iA_Writes_number : NoaI K (c 1) "number" := ⟨T.a_Writes_number⟩
  have iK_Writes_Writes : KitI K (c 1) (c 1) true := ⟨T.q_Writes.kit T.k_Writes_Writes.1 T.k_Writes_Writes.2⟩
  have iO_Breaks : OwnI K (c 2) := ⟨T.o_Breaks⟩
  have iA_Breaks_place : NoaI K (c 2) "place" := ⟨T.a_Breaks_place⟩
  have iA_Breaks_left : NoaI K (c 2) "left" := ⟨T.a_Breaks_left⟩
  have iK_Breaks_Writes : KitI K (c 2) (c 1) false := ⟨T.q_Writes.kit T.k_Breaks_Writes.1 T.k_Breaks_Writes.2⟩
  have iO_Sum : OwnI K (c 3) := ⟨T.o_Sum⟩
  have iA_Sum_row : NoaI K (c 3) "row" := ⟨T.a_Sum_row⟩
  have iA_Sum_carries : NoaI K (c 3) "carries" := ⟨T.a_Sum_carries⟩
  have iK_Sum_Writes : KitI K (c 3) (c 1) false := ⟨T.q_Writes.kit T.k_Sum_Writes.1 T.k_Sum_Writes.2⟩
  have iO_Times : OwnI K (c 4) := ⟨T.o_Times⟩
  have iA_Times_row : NoaI K (c 4) "row" := ⟨T.a_Times_row⟩
  have iA_Times_carries : NoaI K (c 4) "carries" := ⟨T.a_Times_carries⟩
  have iK_Times_Writes : KitI K (c 4) (c 1) false := ⟨T.q_Writes.kit T.k_Times_Writes.1 T.k_Times_Writes.2⟩
  refine T.f_worth.ok sc_worth (fun vs H Q E h => ?_) (fun f cdv A outer s H vs Q E hr h => ?_)
  · obtain ⟨t, p, a, b, ns, rfl, o, g, o2, hf, hl, q⟩ := h
    rfl
  · obtain ⟨t, p, a, b, ns, rfl, o, g, o2, hf, hl, q⟩ := h
    refine ⟨_, (pss_cons (ps_expr (pe_fn F_check_base hr rfl (pa_cons (pv 0) pa_nil)))
      (pss_cons (ps_expr (pe_fn F_check_row hr rfl (pa_cons (pv 0) (pa_cons (pv 1) pa_nil))))
      (pss_cons (ps_asg (pe_tupB (pa_cons pe_int (pa_cons pe_int pa_nil))) (pg_tupB (n := 2) rfl (pgs_cons (pg_name (i := 2) sc_worth.nd rfl (Or.inl rfl)) (pgs_cons (pg_name (i := 3) sc_worth.nd rfl (Or.inl rfl)) pgs_nil))))
      (pss_cons (ps_for PassesOwn.never rfl (pi_listK (K := K) rfl (pv 1)) (pg_name (i := 4) sc_worth.nd rfl (Or.inl rfl))
      (pss_one (ps_par (i := 2) (j := 3) rfl sc_worth.nd rfl rfl (by decide) rfl rfl (pa_cons (pe_op op_add (pe_op op_mulW (pe_ix ix_tupB (pv 0) pe_int (fun _ _ => rfl)) (pv 2)) (pe_op op_mulW (pv 4) (pv 3))) (pa_cons (pe_op op_mulW (pv 3) (pe_ix ix_tupB (pv 0) pe_int (fun _ _ => rfl))) pa_nil)) rfl)))
      (pss_cons (ps_set (i := 5) sc_worth.nd rfl (Or.inl rfl) (pe_fn F_common hr rfl (pa_cons (pv 2) (pa_cons (pv 3) pa_nil))))
      (pss_one (ps_ret (pe_tupB (pa_cons (pe_op op_fdivW (pv 2) (pv 5)) (pa_cons (pe_op op_fdivW (pv 3) (pv 5)) pa_nil)))))))))), ?_⟩
    have gg := g.ok
    walk_at "go"
    refine go_check_base g fun H1 s1 => ?_
    walk_at "go"
    refine go_check_row hf hl fun H2 s2 => ?_
    walk_at "go"
    have hn : (ns.map V.int).length = ns.length := by simp
    refine forM (it_list (xs := ns.map V.int)) (fun i σ H' => ∃ (u : Int) (v1 v2 : Option V), σ = [some (.ref t), some (.ref p), some (.int u), some (.int (b ^ i)), v1, v2] ∧ 0 ≤ u ∧ u ≤ 4096 ^ i ∧ topF a b 0 1 ns = topF a b u (b ^ i) (ns.drop i) ∧ SM H' H2) ⟨0, none, none, by rw [Int.pow_zero] <;> rfl, Int.le_refl _, by rw [Int.pow_zero]; decide, by rw [Int.pow_zero] <;> rfl, smx⟩ (fun _ _ _ ⟨_, _, _, _, _, _, _, _⟩ => inferInstance) ?_ ?_
    · rintro i v σ H3 H3' hi ⟨u, v1, v2, rfl, u0, u1, ht, s3⟩ ⟨rfl, hv⟩
      have hi2 : i < ns.length := by omega
      have e : v = .int ns[i] := by
        rw [List.getElem?_map, List.getElem?_eq_getElem hi2] at hv
        exact (Option.some.inj hv).symm
      subst e
      have hx : 0 ≤ ns[i] ∧ ns[i] < a := figs_get hf hi2
      rw [List.drop_eq_getElem_cons hi2] at ht
      generalize ns[i] = f at hx ht ⊢
      have hb := pow4 (a := b) (by omega) (by omega) i
      have p4 := p4096 i (by omega)
      have bu : Bd u := bd_lt (k := 5000) (by omega)
      have bb : Bd (b ^ i) := bd_lt (k := 5000) (by omega)
      walk_at "go"
      refine ⟨a * u + f * b ^ i, _, _, by rw [Int.pow_succ] <;> rfl, ?_, ?_, by rw [ht, Int.pow_succ] <;> rfl, smx⟩
      · have h1 : 0 ≤ a * u := Int.mul_nonneg (by omega) u0
        have h2 : 0 ≤ f * b ^ i := Int.mul_nonneg hx.1 (by omega)
        omega
      · have h1 : a * u ≤ 60 * 4096 ^ i := Int.mul_le_mul gg.2.1 u1 u0 (by decide)
        have h2 : f * b ^ i ≤ 60 * 4096 ^ i := Int.mul_le_mul (by omega) (by omega) (by omega) (by decide)
        rw [Int.pow_succ]
        omega
    · rintro σ H3 ⟨u, v1, v2, rfl, u0, u1, ht, s3⟩
      rw [hn, List.drop_length] at ht
      rw [hn]
      rw [hn] at u1
      have ht : topF a b 0 1 ns = u := ht
      have hb := pow4 (a := b) (by omega) (by omega) ns.length
      have p4 := p4096 ns.length (by omega)
      have bpos : 0 < b ^ ns.length := Int.pow_pos (by omega)
      walk_at "go"
      refine go_common u0 (by omega) ?_
      walk_at "go"
      have gp : 0 < (Int.gcd u (b ^ ns.length) : Int) := Int.natCast_pos.mpr (Int.gcd_pos_of_ne_zero_right _ (by omega))
      have gl : (Int.gcd u (b ^ ns.length) : Int) ≤ b ^ ns.length := Int.le_of_dvd bpos (Int.gcd_dvd_right _ _)
      refine rd_I (divb gp (by omega)) ?_
      walk_at "go"
      refine rd_I (divb gp (by omega)) ?_
      walk_at "go"
      rw [ht] at q
      exact kret q
theorem sc_check_whole : FnScope ["base", "row", "found", "place"] ["base", "row"] (defScope s_check_whole) := ⟨rfl, rfl, rfl, by decide +kernel, rfl, by decide +kernel, by decide +kernel⟩
def sp_check_whole : Sp := fun vs H Q _ => ∃ (t p : Addr) (a b : Int) (ns : List Int) (n : Int), vs = [.ref t, .ref p] ∧ OB H t (.tup [.int a, .int b]) ∧ GB a b ∧ OB H p (.lst (ns.map V.int)) ∧ figs a ns = true ∧ ns.length ≤ 200 ∧ rdo a b 0 ns = some n ∧ ∀ H', SM H' H → Q (.int n) H'
theorem go_check_whole {t p a b xs ns n H Q E} [o : OB H t (.tup [.int a, .int b])] [o2 : OB H p (.lst xs)] [e : ILs xs ns] (g : GB a b) (hf : figs a ns = true) (hl : ns.length ≤ 200) (hw : rdo a b 0 ns = some n) (q : ∀ H', SM H' H → Q (.int n) H') : sp_check_whole [.ref t, .ref p] H Q E := ⟨t, p, a, b, ns, n, rfl, o, g, ob_ints e o2, hf, hl, hw, q⟩
theorem ok_check_whole (T : Top K mg c) : Fn P w K mg base "check_whole" ["base", "row"] 4 sp_check_whole := by
  have F_check_row := ok_check_row (P := P) (w := w) (base := base) T
  have F_read := ok_read (P := P) (w := w) (base := base) T
  have iO_Writes : OwnI K (c 1) := ⟨T.o_Writes⟩
  have iA_Writes_number : NoaI K (c 1) "number" := ⟨T.a_Writes_number⟩
  have iK_Writes_Writes : KitI K (c 1) (c 1) true := ⟨T.q_Writes.kit T.k_Writes_Writes.1 T.k_Writes_Writes.2⟩
  have iO_Breaks : OwnI K (c 2) := ⟨T.o_Breaks⟩
  have iA_Breaks_place : NoaI K (c 2) "place" := ⟨T.a_Breaks_place⟩
  have iA_Breaks_left : NoaI K (c 2) "left" := ⟨T.a_Breaks_left⟩
  have iK_Breaks_Writes : KitI K (c 2) (c 1) false := ⟨T.q_Writes.kit T.k_Breaks_Writes.1 T.k_Breaks_Writes.2⟩
  have iO_Sum : OwnI K (c 3) := ⟨T.o_Sum⟩
  have iA_Sum_row : NoaI K (c 3) "row" := ⟨T.a_Sum_row⟩
  have iA_Sum_carries : NoaI K (c 3) "carries" := ⟨T.a_Sum_carries⟩
  have iK_Sum_Writes : KitI K (c 3) (c 1) false := ⟨T.q_Writes.kit T.k_Sum_Writes.1 T.k_Sum_Writes.2⟩
  have iO_Times : OwnI K (c 4) := ⟨T.o_Times⟩
  have iA_Times_row : NoaI K (c 4) "row" := ⟨T.a_Times_row⟩
  have iA_Times_carries : NoaI K (c 4) "carries" := ⟨T.a_Times_carries⟩
  have iK_Times_Writes : KitI K (c 4) (c 1) false := ⟨T.q_Writes.kit T.k_Times_Writes.1 T.k_Times_Writes.2⟩
  refine T.f_check_whole.ok sc_check_whole (fun vs H Q E h => ?_) (fun f cdv A outer s H vs Q E hr h => ?_)
  · obtain ⟨t, p, a, b, ns, n, rfl, o, g, o2, hf, hl, hw, q⟩ := h
    rfl
  · obtain ⟨t, p, a, b, ns, n, rfl, o, g, o2, hf, hl, hw, q⟩ := h
    refine ⟨_, (pss_cons (ps_expr (pe_fn F_check_row hr rfl (pa_cons (pv 0) (pa_cons (pv 1) pa_nil))))
      (pss_cons (ps_asg (pe_fn F_read hr rfl (pa_cons (pv 0) (pa_cons (pv 1) pa_nil))) (pg_tupB (n := 2) rfl (pgs_cons (pg_name (i := 2) sc_check_whole.nd rfl (Or.inl rfl)) (pgs_cons (pg_name (i := 3) sc_check_whole.nd rfl (Or.inl rfl)) pgs_nil))))
      (pss_cons (ps_if (pt_cmpR op_ge (pv 3) pe_int (nomark _)) (pss_one ps_never) pss_nil)
      (pss_one (ps_ret (pv 2)))))), ?_⟩
    have gg := g.ok
    walk_at "go"
    refine go_check_row hf hl fun H2 s2 => ?_
    walk_at "go"
    refine go_read (by omega) (by omega) (by omega) (by omega) (by omega) (fun x hx => by have := figs_mem hf hx; omega) ?_
    rw [readF_ok ns 0 n 0 hw]
    intro t3 H3 s3 f3 o3
    walk_at "go"
    exact q _ smx
theorem sc_carrying : FnScope ["base", "sums", "found", "carries", "place", "total"] ["base", "sums"] (defScope s_carrying) := ⟨rfl, rfl, rfl, by decide +kernel, rfl, by decide +kernel, by decide +kernel⟩
def sp_carrying : Sp := fun vs H Q _ => ∃ (t p : Addr) (a b : Int) (ns : List Int), vs = [.ref t, .ref p] ∧ OB H t (.tup [.int a, .int b]) ∧ GB a b ∧ OB H p (.lst (ns.map V.int)) ∧ ns.length ≤ 3000 ∧ (∀ x ∈ ns, 0 ≤ x ∧ x ≤ 10 ^ 6) ∧
  ∀ H' u r1 r2, SM H' H → FR0 H u → FR0 H r1 → FR0 H r2 → NE r1 r2 → OB H' u (.tup [.ref r1, .ref r2]) → OB H' r1 (.lst ((carr a b ns 0).1.reverse.map V.int)) → OB H' r2 (.lst ((0 :: (carr a b ns 0).2).map V.int)) → Q (.ref u) H'
theorem go_carrying {t p a b xs ns H Q E} [o : OB H t (.tup [.int a, .int b])] [o2 : OB H p (.lst xs)] [e : ILs xs ns] (g : GB a b) (hl : ns.length ≤ 3000) (hx : ∀ x ∈ ns, 0 ≤ x ∧ x ≤ 10 ^ 6) (q : ∀ H' u r1 r2, SM H' H → FR0 H u → FR0 H r1 → FR0 H r2 → NE r1 r2 → OB H' u (.tup [.ref r1, .ref r2]) → OB H' r1 (.lst ((carr a b ns 0).1.reverse.map V.int)) → OB H' r2 (.lst ((0 :: (carr a b ns 0).2).map V.int)) → Q (.ref u) H') : sp_carrying [.ref t, .ref p] H Q E := ⟨t, p, a, b, ns, rfl, o, g, ob_ints e o2, hl, hx, q⟩
theorem ok_carrying (T : Top K mg c) : Fn P w K mg base "carrying" ["base", "sums"] 1 sp_carrying := by
  have iO_Writes : OwnI K (c 1) := ⟨T.o_Writes⟩
  have iA_Writes_number : NoaI K (c 1) "number" := ⟨T.a_Writes_number⟩
  have iK_Writes_Writes : KitI K (c 1) (c 1) true := ⟨T.q_Writes.kit T.k_Writes_Writes.1 T.k_Writes_Writes.2⟩
  have iO_Breaks : OwnI K (c 2) := ⟨T.o_Breaks⟩
  have iA_Breaks_place : NoaI K (c 2) "place" := ⟨T.a_Breaks_place⟩
  have iA_Breaks_left : NoaI K (c 2) "left" := ⟨T.a_Breaks_left⟩
  have iK_Breaks_Writes : KitI K (c 2) (c 1) false := ⟨T.q_Writes.kit T.k_Breaks_Writes.1 T.k_Breaks_Writes.2⟩
  have iO_Sum : OwnI K (c 3) := ⟨T.o_Sum⟩
  have iA_Sum_row : NoaI K (c 3) "row" := ⟨T.a_Sum_row⟩
  have iA_Sum_carries : NoaI K (c 3) "carries" := ⟨T.a_Sum_carries⟩
  have iK_Sum_Writes : KitI K (c 3) (c 1) false := ⟨T.q_Writes.kit T.k_Sum_Writes.1 T.k_Sum_Writes.2⟩
  have iO_Times : OwnI K (c 4) := ⟨T.o_Times⟩
  have iA_Times_row : NoaI K (c 4) "row" := ⟨T.a_Times_row⟩
  have iA_Times_carries : NoaI K (c 4) "carries" := ⟨T.a_Times_carries⟩
  have iK_Times_Writes : KitI K (c 4) (c 1) false := ⟨T.q_Writes.kit T.k_Times_Writes.1 T.k_Times_Writes.2⟩
  refine T.f_carrying.ok sc_carrying (fun vs H Q E h => ?_) (fun f cdv A outer s H vs Q E hr h => ?_)
  · obtain ⟨t, p, a, b, ns, rfl, o, g, o2, hl, hx, q⟩ := h
    rfl
  · obtain ⟨t, p, a, b, ns, rfl, o, g, o2, hl, hx, q⟩ := h
    refine ⟨_, (pss_cons (ps_par3 (i := 2) (j := 3) (l := 4) rfl sc_carrying.nd rfl rfl rfl (by decide) (by decide) (by decide) rfl rfl rfl (pa_cons (pe_lstB pa_nil) (pa_cons (pe_lstB (pa_cons pe_int pa_nil)) (pa_cons pe_int pa_nil))) rfl)
      (pss_cons (ps_while PassesOwn.never (PW.pt (pw_or (pt_cmpR op_lt (pv 4) (pe_callB cr_lenB rfl T.n_len (by decide +kernel) (pa_cons (pv 1) pa_nil)) (nomark _)) (pw_or1 (pt_cmpR op_gt (pe_ix ix_listB (pv 3) (pe_un un_neg pe_int) (fun _ _ => rfl)) pe_int (nomark _))))) (pss_cons (ps_set (i := 5) sc_carrying.nd rfl (Or.inl rfl) (pe_op op_add (pe_ifExp (pt_cmpR op_lt (pv 4) (pe_callB cr_lenB rfl T.n_len (by decide +kernel) (pa_cons (pv 1) pa_nil)) (nomark _)) (pe_ix ix_listB (pv 1) (pv 4) (fun _ _ => rfl)) pe_int) (pe_ix ix_listB (pv 3) (pe_un un_neg pe_int) (fun _ _ => rfl))))
      (pss_cons (ps_expr (pe_bm PySem.F.plainAttrs_list PySem.F.slot_list_append PySem.F.type_list_append mt_appendB (pv 2) (pa_cons (pe_op op_mod (pv 5) (pe_ix ix_tupB (pv 0) pe_int (fun _ _ => rfl))) pa_nil)))
      (pss_cons (ps_expr (pe_bm PySem.F.plainAttrs_list PySem.F.slot_list_append PySem.F.type_list_append mt_appendB (pv 3) (pa_cons (pe_op op_mulW (pe_ix ix_tupB (pv 0) pe_int (fun _ _ => rfl)) (pe_op op_fdivW (pv 5) (pe_ix ix_tupB (pv 0) pe_int (fun _ _ => rfl)))) pa_nil)))
      (pss_one (ps_aug (i := 4) sc_carrying.nd rfl (Or.inl rfl) pe_int ip_add))))))
      (pss_one (ps_ret (pe_tupB (pa_cons (pe_revB (pv 2)) (pa_cons (pv 3) pa_nil))))))), ?_⟩
    have gg := g.ok
    have hcl := carr_len_le g (S := 10 ^ 6) (by decide) ns 0 (Int.le_refl 0) (by decide) hx
    have hc2 := carr_len g.b1 g.ba ns 0 (Int.le_refl 0) (fun x h => (hx x h).1)
    walk_at "go"
    rename_i p1 H1 s1 f1 o1 p2 H2 s2 f2 o2'
    have f2' : FR0 H p2 := frx (M := H1)
    have o1' : OB H2 p1 (.lst (([] : List Int).map V.int)) := inferInstanceAs (OB H2 p1 (.lst []))
    have o2'' : OB H2 p2 (.lst (([] ++ [b * 0] : List Int).map V.int)) := by
      rw [Int.mul_zero]
      exact o2'
    have n21 : NE p2 p1 := inferInstance
    have n12 : NE p1 p2 := inferInstance
    clear o1 o2'
    refine whM (fun m σ H' => ∃ (i : Nat) (k : Int) (F G : List Int) (v : Option V), σ = [some (.ref t), some (.ref p), some (.ref p1), some (.ref p2), some (.int (i : Int)), v] ∧ F.length = i ∧ 0 ≤ k ∧ k ≤ 10 ^ 6 ∧ SM H' H ∧ OB H' p1 (.lst (F.map V.int)) ∧ OB H' p2 (.lst ((G ++ [b * k]).map V.int)) ∧
        F ++ (carr a b (ns.drop i) k).1 = (carr a b ns 0).1 ∧ G ++ b * k :: (carr a b (ns.drop i) k).2 = 0 :: (carr a b ns 0).2 ∧ m = (ns.length - i) * (10 ^ 6 + 2) + k.toNat)
      ⟨_, 0, 0, [], [], _, rfl, rfl, Int.le_refl 0, by decide, smx, o1', o2'', rfl, by rw [Int.mul_zero] <;> rfl, rfl⟩ ?_
    rintro m σ H' ⟨i, k, F, G, v, rfl, i2, k0, k1, s3, o1, o2', hF, hG, rfl⟩
    have lF : F.length ≤ 11500 := by
      have := congrArg List.length hF
      rw [List.length_append] at this
      omega
    have lG : G.length ≤ 11500 := by
      have := congrArg List.length hG
      rw [List.length_append, List.length_cons, List.length_cons] at this
      omega
    have hbk : 0 ≤ b * k := Int.mul_nonneg (by omega) k0
    have hbk1 : b * k ≤ 60 * k := Int.mul_le_mul_of_nonneg_right (by omega) k0
    walk_at "go"
    refine rd_D (fun h => ?_) (fun h => ?_)
    · have g1 : i < ns.length := by omega
      have hs := hx ns[i] (List.getElem_mem g1)
      have hd := List.drop_eq_getElem_cons g1
      have eg : ns.getD (i : Int).toNat 0 = ns[i] := by rw [Int.toNat_natCast, List.getD_eq_getElem?_getD, List.getElem?_eq_getElem g1, Option.getD_some]
      refine ⟨_, fun _ _ h => h, ?_⟩
      walk_at "go"
      refine rd_ixLI (by omega) (by omega) ?_
      rw [eg]
      rw [hd] at hF hG
      generalize ns[i] = s at hs hF hG
      walk_at "go"
      refine rd_ixL at_end ?_
      walk_at "go"
      rename_i H4 m4 o4
      have st := car_step g.b1 g.ba hs.1 hs.2 k0 k1
      have bt : Bd ((s + b * k) / a) := bd_s (by omega)
      walk_at "go"
      rename_i H5 m5 o5
      refine ⟨_, ?_, i + 1, (s + b * k) / a, F ++ [(s + b * k) % a], G ++ [b * k], _, rfl, by simp [i2], st.1, st.2, smx, by rw [List.map_append]; exact inferInstance, by rw [List.map_append (l₁ := G ++ [b * k])]; exact o5, ?_, ?_, rfl⟩
      · have : (ns.length - i) * (10 ^ 6 + 2) = (ns.length - (i + 1)) * (10 ^ 6 + 2) + (10 ^ 6 + 2) := by
          rw [show ns.length - i = ns.length - (i + 1) + 1 by omega, Nat.add_mul, Nat.one_mul]
        rw [this]
        omega
      · rw [← hF, List.append_assoc]
        rfl
      · rw [← hG, List.append_assoc]
        rfl
    · have hd : ns.drop i = [] := List.drop_of_length_le (by omega)
      rw [hd] at hF hG
      walk_at "go"
      refine rd_ixL at_end ?_
      walk_at "go"
      refine rd_D (fun h2 => ?_) (fun h2 => ?_)
      · have kp : 0 < k := by
          rcases Int.lt_or_le 0 k with z | z
          · exact z
          · have : k = 0 := by omega
            rw [this, Int.mul_zero] at h2
            omega
        refine ⟨_, fun _ _ h => h, ?_⟩
        rw [carr_nil_step g.b1 g.ba kp] at hF hG
        have st := car_step (s := 0) g.b1 g.ba (Int.le_refl 0) (by decide) k0 k1
        rw [Int.zero_add] at st
        have l := div_lt' g.b1 g.ba kp
        have bt : Bd (b * k / a) := bd_s (by omega)
        walk_at "go"
        refine rd_ixL at_end ?_
        walk_at "go"
        rename_i H4 m4 o4
        simp only [Int.zero_add] at o4
        have bt : Bd ((0 + b * k) / a) := by rw [Int.zero_add]; exact bt
        walk_at "go"
        rename_i H5 m5 o5
        simp only [Int.zero_add] at o5
        refine ⟨_, ?_, i + 1, b * k / a, F ++ [b * k % a], G ++ [b * k], _, rfl, by simp [i2], st.1, st.2, smx, by rw [List.map_append]; exact inferInstance, by rw [List.map_append (l₁ := G ++ [b * k])]; exact o5, ?_, ?_, rfl⟩
        · rw [show ns.length - i = 0 by omega, show ns.length - (i + 1) = 0 by omega]
          omega
        · rw [← hF, List.append_assoc, List.drop_of_length_le (by omega)]
          rfl
        · rw [← hG, List.append_assoc, List.drop_of_length_le (by omega)]
          rfl
      · have ek : k = 0 := by
          rcases Int.lt_or_le 0 k with z | z
          · have : 0 < b * k := Int.mul_pos (by omega) z
            omega
          · omega
        subst ek
        rw [carr_nil, List.append_nil] at hF
        rw [carr_nil, Int.mul_zero] at hG
        rw [Int.mul_zero, hG] at o2'
        walk_at "go"
        rename_i p6 H6 s6 f6 o6 p7 H7 s7 f7 o7
        rw [← List.map_reverse, hF] at o6
        exact q _ p7 p6 p2 smx (frx (M := H6)) (frx (M := H')) f2' inferInstance o7 inferInstance inferInstance
theorem sc_added : FnScope ["base", "one", "other", "row", "carries"] ["base", "one", "other"] (defScope s_added) := ⟨rfl, rfl, rfl, by decide +kernel, rfl, by decide +kernel, by decide +kernel⟩
def sp_added (c : Nat → Addr) : Sp := fun vs H Q _ => ∃ (t p r : Addr) (a b : Int) (ns ms : List Int) (n m : Int), vs = [.ref t, .ref p, .ref r] ∧ OB H t (.tup [.int a, .int b]) ∧ GB a b ∧ OB H p (.lst (ns.map V.int)) ∧ OB H r (.lst (ms.map V.int)) ∧ figs a ns = true ∧ ns.length ≤ 200 ∧ rdo a b 0 ns = some n ∧ figs a ms = true ∧ ms.length ≤ 200 ∧ rdo a b 0 ms = some m ∧
  ∀ H' x dx r1 r2, SM H' H → FR0 H x → FR0 H r1 → FR0 H r2 → NE x r1 → NE r1 x → NE x r2 → NE r2 x → NE r1 r2 → NE r2 r1 → OB H' x (.ins (c 3) dx [("row", .ref r1), ("carries", .ref r2)]) → OB H' r1 (.lst ((row a b (n + m)).map V.int)) → OB H' r2 (.lst ((addC a b n m).map V.int)) → Q (.ref x) H'
theorem go_added {c : Nat → Addr} {t p r a b xs ys ns ms n m H Q E} [o : OB H t (.tup [.int a, .int b])] [o2 : OB H p (.lst xs)] [e : ILs xs ns] [o3 : OB H r (.lst ys)] [e3 : ILs ys ms] (g : GB a b) (hf : figs a ns = true) (hl : ns.length ≤ 200) (hw : rdo a b 0 ns = some n) (hf2 : figs a ms = true) (hl2 : ms.length ≤ 200) (hw2 : rdo a b 0 ms = some m)
  (q : ∀ H' x dx r1 r2, SM H' H → FR0 H x → FR0 H r1 → FR0 H r2 → NE x r1 → NE r1 x → NE x r2 → NE r2 x → NE r1 r2 → NE r2 r1 → OB H' x (.ins (c 3) dx [("row", .ref r1), ("carries", .ref r2)]) → OB H' r1 (.lst ((row a b (n + m)).map V.int)) → OB H' r2 (.lst ((addC a b n m).map V.int)) → Q (.ref x) H') : sp_added c [.ref t, .ref p, .ref r] H Q E := ⟨t, p, r, a, b, ns, ms, n, m, rfl, o, g, ob_ints e o2, ob_ints e3 o3, hf, hl, hw, hf2, hl2, hw2, q⟩
theorem ok_added (T : Top K mg c) : Fn P w K mg base "added" ["base", "one", "other"] 5 (sp_added c) := by
  have F_check_base := ok_check_base (P := P) (w := w) (base := base) T
  have F_check_whole := ok_check_whole (P := P) (w := w) (base := base) T
  have F_carrying := ok_carrying (P := P) (w := w) (base := base) T
  have F_summed := ok_summed (P := P) (w := w) (base := base) T
  have F_plain := ok_plain (P := P) (w := w) (base := base) T
  have I_Sum := oki_Sum (P := P) (w := w) (base := base) T
  have iO_Writes : OwnI K (c 1) := ⟨T.o_Writes⟩
  have iA_Writes_number : NoaI K (c 1) "number" := ⟨T.a_Writes_number⟩
  have iK_Writes_Writes : KitI K (c 1) (c 1) true := ⟨T.q_Writes.kit T.k_Writes_Writes.1 T.k_Writes_Writes.2⟩
  have iO_Breaks : OwnI K (c 2) := ⟨T.o_Breaks⟩
  have iA_Breaks_place : NoaI K (c 2) "place" := ⟨T.a_Breaks_place⟩
  have iA_Breaks_left : NoaI K (c 2) "left" := ⟨T.a_Breaks_left⟩
  have iK_Breaks_Writes : KitI K (c 2) (c 1) false := ⟨T.q_Writes.kit T.k_Breaks_Writes.1 T.k_Breaks_Writes.2⟩
  have iO_Sum : OwnI K (c 3) := ⟨T.o_Sum⟩
  have iA_Sum_row : NoaI K (c 3) "row" := ⟨T.a_Sum_row⟩
  have iA_Sum_carries : NoaI K (c 3) "carries" := ⟨T.a_Sum_carries⟩
  have iK_Sum_Writes : KitI K (c 3) (c 1) false := ⟨T.q_Writes.kit T.k_Sum_Writes.1 T.k_Sum_Writes.2⟩
  have iO_Times : OwnI K (c 4) := ⟨T.o_Times⟩
  have iA_Times_row : NoaI K (c 4) "row" := ⟨T.a_Times_row⟩
  have iA_Times_carries : NoaI K (c 4) "carries" := ⟨T.a_Times_carries⟩
  have iK_Times_Writes : KitI K (c 4) (c 1) false := ⟨T.q_Writes.kit T.k_Times_Writes.1 T.k_Times_Writes.2⟩
  refine T.f_added.ok sc_added (fun vs H Q E h => ?_) (fun f cdv A outer s H vs Q E hr h => ?_)
  · obtain ⟨t, p, r, a, b, ns, ms, n, m, rfl, o, g, o2, o3, hf, hl, hw, hf2, hl2, hw2, q⟩ := h
    rfl
  · obtain ⟨t, p, r, a, b, ns, ms, n, m, rfl, o, g, o2, o3, hf, hl, hw, hf2, hl2, hw2, q⟩ := h
    refine ⟨_, (pss_cons (ps_expr (pe_fn F_check_base hr rfl (pa_cons (pv 0) pa_nil)))
      (pss_cons (ps_expr (pe_fn F_check_whole hr rfl (pa_cons (pv 0) (pa_cons (pv 1) pa_nil))))
      (pss_cons (ps_expr (pe_fn F_check_whole hr rfl (pa_cons (pv 0) (pa_cons (pv 2) pa_nil))))
      (pss_cons (ps_asg (pe_fn F_carrying hr rfl (pa_cons (pv 0) (pa_cons (pe_fn F_summed hr rfl (pa_cons (pe_fn F_plain hr rfl (pa_cons (pv 1) pa_nil)) (pa_cons (pe_fn F_plain hr rfl (pa_cons (pv 2) pa_nil)) pa_nil))) pa_nil))) (pg_tupB (n := 2) rfl (pgs_cons (pg_name (i := 3) sc_added.nd rfl (Or.inl rfl)) (pgs_cons (pg_name (i := 4) sc_added.nd rfl (Or.inl rfl)) pgs_nil))))
      (pss_one (ps_ret (pe_mk I_Sum hr rfl T.m_Sum (pa_cons (pv 3) (pa_cons (pv 4) pa_nil))))))))), ?_⟩
    have gg := g.ok
    have n0 := rdo_nn (by omega) (by omega) _ _ _ (Int.le_refl 0) hf hw
    have m0 := rdo_nn (by omega) (by omega) _ _ _ (Int.le_refl 0) hf2 hw2
    have e1 := plain_row g hf hw
    have e2 := plain_row g hf2 hw2
    have l1 := plainF_len ns
    have l2 := plainF_len ms
    have z1 := row_fig g.b1 g.ba n n0
    have z2 := row_fig g.b1 g.ba m m0
    walk_at "go"
    refine go_check_base g fun H1 s1 => ?_
    walk_at "go"
    refine go_check_whole g hf hl hw fun H2 s2 => ?_
    walk_at "go"
    refine go_check_whole g hf2 hl2 hw2 fun H3 s3 => ?_
    walk_at "go"
    refine go_plain (by omega) ?_
    intro p4 H4 s4 f4 o4
    walk_at "go"
    refine go_plain (by omega) ?_
    intro p5 H5 s5 f5 o5
    walk_at "go"
    refine go_summed (by omega) (by omega) ?_
    rw [e1, e2]
    rw [e1] at l1
    rw [e2] at l2
    intro p6 H6 s6 f6 o6
    walk_at "go"
    have hz := addZ_mem (B := 60) (C := 60) (by decide) (by decide) (row a b n).reverse (row a b m).reverse (fun x hx => by have := z1 x (List.mem_reverse.mp hx); omega) (fun x hx => by have := z2 x (List.mem_reverse.mp hx); omega)
    refine go_carrying g (by rw [addZ_len, List.length_reverse, List.length_reverse]; omega) (fun x hx => by have := hz x hx; omega) ?_
    rw [add_row g n0 m0]
    intro H7 u r1 r2 s7 fu fr1 fr2 ne ou or1 or2
    walk_at "go"
    rename_i x dx H8 s8 f8 o8
    refine go_Sum_init fun H9 q1 q2 m9 g1 g2 n9 x9 y1 y2 => ⟨rfl, ?_⟩
    have n91 : NE q2 q1 := ⟨fun e => n9.h e.symm⟩
    exact q _ x dx q1 q2 smx (frx (M := H7)) (frx (M := H8)) (frx (M := H8)) inferInstance inferInstance inferInstance inferInstance n9 n91 x9 y1 y2
theorem sc_times : FnScope ["base", "row", "factor", "sums", "found", "carries", "figure"] ["base", "row", "factor"] (defScope s_times) := ⟨rfl, rfl, rfl, by decide +kernel, rfl, by decide +kernel, by decide +kernel⟩
def sp_times (c : Nat → Addr) : Sp := fun vs H Q _ => ∃ (t p : Addr) (a b : Int) (ns : List Int) (n f : Int), vs = [.ref t, .ref p, .int f] ∧ OB H t (.tup [.int a, .int b]) ∧ GB a b ∧ OB H p (.lst (ns.map V.int)) ∧ figs a ns = true ∧ ns.length ≤ 200 ∧ rdo a b 0 ns = some n ∧ 0 ≤ f ∧ f ≤ 1000 ∧
  ∀ H' x dx r1 r2, SM H' H → FR0 H x → FR0 H r1 → FR0 H r2 → NE x r1 → NE r1 x → NE x r2 → NE r2 x → NE r1 r2 → NE r2 r1 → OB H' x (.ins (c 4) dx [("row", .ref r1), ("carries", .ref r2)]) → OB H' r1 (.lst ((row a b (f * n)).map V.int)) → OB H' r2 (.lst ((mulC a b f n).map V.int)) → Q (.ref x) H'
theorem go_times {c : Nat → Addr} {t p a b xs ns n f H Q E} [o : OB H t (.tup [.int a, .int b])] [o2 : OB H p (.lst xs)] [e : ILs xs ns] (g : GB a b) (hf : figs a ns = true) (hl : ns.length ≤ 200) (hw : rdo a b 0 ns = some n) (f0 : 0 ≤ f) (f1 : f ≤ 1000)
  (q : ∀ H' x dx r1 r2, SM H' H → FR0 H x → FR0 H r1 → FR0 H r2 → NE x r1 → NE r1 x → NE x r2 → NE r2 x → NE r1 r2 → NE r2 r1 → OB H' x (.ins (c 4) dx [("row", .ref r1), ("carries", .ref r2)]) → OB H' r1 (.lst ((row a b (f * n)).map V.int)) → OB H' r2 (.lst ((mulC a b f n).map V.int)) → Q (.ref x) H') : sp_times c [.ref t, .ref p, .int f] H Q E := ⟨t, p, a, b, ns, n, f, rfl, o, g, ob_ints e o2, hf, hl, hw, f0, f1, q⟩
theorem ok_times (T : Top K mg c) : Fn P w K mg base "times" ["base", "row", "factor"] 5 (sp_times c) := by
  have F_check_base := ok_check_base (P := P) (w := w) (base := base) T
  have F_check_whole := ok_check_whole (P := P) (w := w) (base := base) T
  have F_check_count := ok_check_count (P := P) (w := w) (base := base) T
  have F_carrying := ok_carrying (P := P) (w := w) (base := base) T
  have F_plain := ok_plain (P := P) (w := w) (base := base) T
  have I_Times := oki_Times (P := P) (w := w) (base := base) T
  have iO_Writes : OwnI K (c 1) := ⟨T.o_Writes⟩
  have iA_Writes_number : NoaI K (c 1) "number" := ⟨T.a_Writes_number⟩
  have iK_Writes_Writes : KitI K (c 1) (c 1) true := ⟨T.q_Writes.kit T.k_Writes_Writes.1 T.k_Writes_Writes.2⟩
  have iO_Breaks : OwnI K (c 2) := ⟨T.o_Breaks⟩
  have iA_Breaks_place : NoaI K (c 2) "place" := ⟨T.a_Breaks_place⟩
  have iA_Breaks_left : NoaI K (c 2) "left" := ⟨T.a_Breaks_left⟩
  have iK_Breaks_Writes : KitI K (c 2) (c 1) false := ⟨T.q_Writes.kit T.k_Breaks_Writes.1 T.k_Breaks_Writes.2⟩
  have iO_Sum : OwnI K (c 3) := ⟨T.o_Sum⟩
  have iA_Sum_row : NoaI K (c 3) "row" := ⟨T.a_Sum_row⟩
  have iA_Sum_carries : NoaI K (c 3) "carries" := ⟨T.a_Sum_carries⟩
  have iK_Sum_Writes : KitI K (c 3) (c 1) false := ⟨T.q_Writes.kit T.k_Sum_Writes.1 T.k_Sum_Writes.2⟩
  have iO_Times : OwnI K (c 4) := ⟨T.o_Times⟩
  have iA_Times_row : NoaI K (c 4) "row" := ⟨T.a_Times_row⟩
  have iA_Times_carries : NoaI K (c 4) "carries" := ⟨T.a_Times_carries⟩
  have iK_Times_Writes : KitI K (c 4) (c 1) false := ⟨T.q_Writes.kit T.k_Times_Writes.1 T.k_Times_Writes.2⟩
  refine T.f_times.ok sc_times (fun vs H Q E h => ?_) (fun f cdv A outer s H vs Q E hr h => ?_)
  · obtain ⟨t, p, a, b, ns, n, f1, rfl, o, g, o2, hf, hl, hw, f0, f2, q⟩ := h
    rfl
  · obtain ⟨t, p, a, b, ns, n, f1, rfl, o, g, o2, hf, hl, hw, f0, f2, q⟩ := h
    refine ⟨_, (pss_cons (ps_expr (pe_fn F_check_base hr rfl (pa_cons (pv 0) pa_nil)))
      (pss_cons (ps_expr (pe_fn F_check_whole hr rfl (pa_cons (pv 0) (pa_cons (pv 1) pa_nil))))
      (pss_cons (ps_expr (pe_fn F_check_count hr rfl (pa_cons (pv 2) (pa_cons pe_int (pa_cons (pe_glob (v := .int 1000) rfl (T.c_MOST_TIMES).choose_spec ⟨_, rfl⟩) pa_nil)))))
      (pss_cons (ps_set (i := 3) sc_times.nd rfl (Or.inl rfl) (pe_ifExp (pt_cmpR op_gt (pv 2) pe_int (nomark _)) (pe_lc (own := [("figure", 6)]) (g := gName 6) (tt := tYes) rfl sc_times.nd (pi_listK (K := K) rfl (pe_revB (pe_fn F_plain hr rfl (pa_cons (pv 1) pa_nil)))) (blkOk_by (own := [("figure", 6)]) (N := ["base", "row", "factor", "sums", "found", "carries", "figure"]) (sc := defScope s_times) (by decide +kernel)) (fun _ _ _ _ _ => (pg_name (i := 6) sc_times.nd rfl (Or.inl rfl))) (fun _ _ _ _ _ => pts_nil) (fun _ _ _ _ _ => (pe_op op_mulW (pv 2) (pv 6)))) (pe_lstB pa_nil)))
      (pss_cons (ps_asg (pe_fn F_carrying hr rfl (pa_cons (pv 0) (pa_cons (pv 3) pa_nil))) (pg_tupB (n := 2) rfl (pgs_cons (pg_name (i := 4) sc_times.nd rfl (Or.inl rfl)) (pgs_cons (pg_name (i := 5) sc_times.nd rfl (Or.inl rfl)) pgs_nil))))
      (pss_one (ps_ret (pe_mk I_Times hr rfl T.m_Times (pa_cons (pv 4) (pa_cons (pv 5) pa_nil)))))))))), ?_⟩
    have gg := g.ok
    have n0 := rdo_nn (by omega) (by omega) _ _ _ (Int.le_refl 0) hf hw
    have e1 := plain_row g hf hw
    have l1 := plainF_len ns
    have z1 := row_fig g.b1 g.ba n n0
    rw [e1] at l1
    have zs := sumT_mem (b := b) gg.2.1 f0 f2 z1
    have ls := sumT_len (a := a) (b := b) (f := f1) (n := n)
    walk_at "go"
    refine go_check_base g fun H1 s1 => ?_
    walk_at "go"
    refine go_check_whole g hf hl hw fun H2 s2 => ?_
    walk_at "go"
    refine go_check_count f0 f2 ?_
    walk_at "go"
    
    refine rd_D (fun hpos => ?_) (fun hpos => ?_)
    · walk_at "go"
      refine go_plain (by omega) ?_
      rw [e1]
      intro p4 H4 s4 f4 o4
      walk_at "go"
      rename_i p5 H5 s5 f5 o5
      refine lcMap (row a b n).reverse (fun x => .int (f1 * x)) (it_list (xs := ((row a b n).reverse).map V.int)) (by simp) (by rw [List.length_reverse]; omega) (fun H' s => OB.mono (a := s) (b := obl (o := o5))) ?_ ?_
      · rintro i x v H' H'' hi s ⟨rfl, hv⟩ Nt Nf ht
        have e : v = .int x := by
          rw [List.getElem?_map, hi] at hv
          exact (Option.some.inj hv).symm
        subst e
        have hxm := z1 x (List.mem_reverse.mp (List.mem_of_getElem? hi))
        have bx : Bd x := bd_s (by omega)
        have bf : Bd f1 := bd_s (by omega)
        walk_at "go"
        exact ht _ smx
      intro pS HS sS fS oS
      have oS' : OB HS pS (.lst ((sumT a b f1 n).map V.int)) := by
        unfold sumT
        rw [if_pos hpos, List.map_map]
        exact oS
      clear oS
      walk_at "go"
      refine go_carrying g (by omega) (fun x hx => by have := zs x hx; omega) ?_
      rw [mul_row g f0 n0]
      intro H7 u r1 r2 s7 fu fr1 fr2 ne ou or1 or2
      walk_at "go"
    
      rename_i x dx H8 s8 f8 o8
      refine go_Times_init fun H9 q1 q2 m9 g1 g2 n9 x9 y1 y2 => ⟨rfl, ?_⟩
      have n91 : NE q2 q1 := ⟨fun e => n9.h e.symm⟩
      exact q _ x dx q1 q2 smx (frx (M := H7)) (frx (M := H8)) (frx (M := H8)) inferInstance inferInstance inferInstance inferInstance n9 n91 x9 y1 y2
    · walk_at "go"
      rename_i pS HS sS fS oS
      have oS' : OB HS pS (.lst ((sumT a b f1 n).map V.int)) := by
        unfold sumT
        rw [if_neg hpos]
        exact oS
      clear oS
      walk_at "go"
      refine go_carrying g (by omega) (fun x hx => by have := zs x hx; omega) ?_
      rw [mul_row g f0 n0]
      intro H7 u r1 r2 s7 fu fr1 fr2 ne ou or1 or2
      walk_at "go"
    
      rename_i x dx H8 s8 f8 o8
      refine go_Times_init fun H9 q1 q2 m9 g1 g2 n9 x9 y1 y2 => ⟨rfl, ?_⟩
      have n91 : NE q2 q1 := ⟨fun e => n9.h e.symm⟩
      exact q _ x dx q1 q2 smx (frx (M := H7)) (frx (M := H8)) (frx (M := H8)) inferInstance inferInstance inferInstance inferInstance n9 n91 x9 y1 y2
theorem sc_taken : FnScope ["base", "one", "other", "number", "less"] ["base", "one", "other"] (defScope s_taken) := ⟨rfl, rfl, rfl, by decide +kernel, rfl, by decide +kernel, by decide +kernel⟩
def sp_taken : Sp := fun vs H Q _ => ∃ (t p r : Addr) (a b : Int) (ns ms : List Int) (n m : Int), vs = [.ref t, .ref p, .ref r] ∧ OB H t (.tup [.int a, .int b]) ∧ GB a b ∧ OB H p (.lst (ns.map V.int)) ∧ OB H r (.lst (ms.map V.int)) ∧ figs a ns = true ∧ ns.length ≤ 200 ∧ rdo a b 0 ns = some n ∧ figs a ms = true ∧ ms.length ≤ 200 ∧ rdo a b 0 ms = some m ∧ m ≤ n ∧ kNew Q (.lst ((row a b (n - m)).map V.int)) H
theorem go_taken {t p r a b xs ys ns ms n m H Q E} [o : OB H t (.tup [.int a, .int b])] [o2 : OB H p (.lst xs)] [e : ILs xs ns] [o3 : OB H r (.lst ys)] [e3 : ILs ys ms] (g : GB a b) (hf : figs a ns = true) (hl : ns.length ≤ 200) (hw : rdo a b 0 ns = some n) (hf2 : figs a ms = true) (hl2 : ms.length ≤ 200) (hw2 : rdo a b 0 ms = some m) (hmn : m ≤ n)
  (q : kNew Q (.lst ((row a b (n - m)).map V.int)) H) : sp_taken [.ref t, .ref p, .ref r] H Q E := ⟨t, p, r, a, b, ns, ms, n, m, rfl, o, g, ob_ints e o2, ob_ints e3 o3, hf, hl, hw, hf2, hl2, hw2, hmn, q⟩
theorem ok_taken (T : Top K mg c) : Fn P w K mg base "taken" ["base", "one", "other"] 5 sp_taken := by
  have F_check_base := ok_check_base (P := P) (w := w) (base := base) T
  have F_row_of := ok_row_of (P := P) (w := w) (base := base) T
  have F_check_whole := ok_check_whole (P := P) (w := w) (base := base) T
  have iO_Writes : OwnI K (c 1) := ⟨T.o_Writes⟩
  have iA_Writes_number : NoaI K (c 1) "number" := ⟨T.a_Writes_number⟩
  have iK_Writes_Writes : KitI K (c 1) (c 1) true := ⟨T.q_Writes.kit T.k_Writes_Writes.1 T.k_Writes_Writes.2⟩
  have iO_Breaks : OwnI K (c 2) := ⟨T.o_Breaks⟩
  have iA_Breaks_place : NoaI K (c 2) "place" := ⟨T.a_Breaks_place⟩
  have iA_Breaks_left : NoaI K (c 2) "left" := ⟨T.a_Breaks_left⟩
  have iK_Breaks_Writes : KitI K (c 2) (c 1) false := ⟨T.q_Writes.kit T.k_Breaks_Writes.1 T.k_Breaks_Writes.2⟩
  have iO_Sum : OwnI K (c 3) := ⟨T.o_Sum⟩
  have iA_Sum_row : NoaI K (c 3) "row" := ⟨T.a_Sum_row⟩
  have iA_Sum_carries : NoaI K (c 3) "carries" := ⟨T.a_Sum_carries⟩
  have iK_Sum_Writes : KitI K (c 3) (c 1) false := ⟨T.q_Writes.kit T.k_Sum_Writes.1 T.k_Sum_Writes.2⟩
  have iO_Times : OwnI K (c 4) := ⟨T.o_Times⟩
  have iA_Times_row : NoaI K (c 4) "row" := ⟨T.a_Times_row⟩
  have iA_Times_carries : NoaI K (c 4) "carries" := ⟨T.a_Times_carries⟩
  have iK_Times_Writes : KitI K (c 4) (c 1) false := ⟨T.q_Writes.kit T.k_Times_Writes.1 T.k_Times_Writes.2⟩
  refine T.f_taken.ok sc_taken (fun vs H Q E h => ?_) (fun f cdv A outer s H vs Q E hr h => ?_)
  · obtain ⟨t, p, r, a, b, ns, ms, n, m, rfl, o, g, o2, o3, hf, hl, hw, hf2, hl2, hw2, hmn, q⟩ := h
    rfl
  · obtain ⟨t, p, r, a, b, ns, ms, n, m, rfl, o, g, o2, o3, hf, hl, hw, hf2, hl2, hw2, hmn, q⟩ := h
    refine ⟨_, (pss_cons (ps_expr (pe_fn F_check_base hr rfl (pa_cons (pv 0) pa_nil)))
      (pss_cons (ps_par (i := 3) (j := 4) rfl sc_taken.nd rfl rfl (by decide) rfl rfl (pa_cons (pe_fn F_check_whole hr rfl (pa_cons (pv 0) (pa_cons (pv 1) pa_nil))) (pa_cons (pe_fn F_check_whole hr rfl (pa_cons (pv 0) (pa_cons (pv 2) pa_nil))) pa_nil)) rfl)
      (pss_cons (ps_if (pt_cmpR op_lt (pv 3) (pv 4) (nomark _)) (pss_one ps_never) pss_nil)
      (pss_one (ps_ret (pe_fn F_row_of hr rfl (pa_cons (pv 0) (pa_cons (pe_op op_sub (pv 3) (pv 4)) pa_nil)))))))), ?_⟩
    have gg := g.ok
    have n0 := rdo_nn (by omega) (by omega) _ _ _ (Int.le_refl 0) hf hw
    have m0 := rdo_nn (by omega) (by omega) _ _ _ (Int.le_refl 0) hf2 hw2
    have nb := rdo_bd g hf (by omega) hw
    have ll := left_len g hf hw m0 hmn
    have bz : Bd (n - m) := bd_lt (k := 18001) (by omega)
    clear nb
    walk_at "go"
    refine go_check_base g fun H1 s1 => ?_
    walk_at "go"
    refine go_check_whole g hf hl hw fun H2 s2 => ?_
    walk_at "go"
    refine go_check_whole g hf2 hl2 hw2 fun H3 s3 => ?_
    walk_at "go"
    refine go_row_of g (by omega) bz (by omega) ?_
    intro p2 H4 s4 f4 o4
    exact kret q
theorem sc_undone : FnScope ["number", "modulus", "one", "other", "mine", "theirs", "part"] ["number", "modulus"] (defScope s_undone) := ⟨rfl, rfl, rfl, by decide +kernel, rfl, by decide +kernel, by decide +kernel⟩
def sp_undone : Sp := fun vs H Q _ => ∃ n m : Int, vs = [.int n, .int m] ∧ 0 ≤ n ∧ 1 ≤ m ∧ m < 2 ^ 7000 ∧ Int.gcd m n = 1 ∧ ∀ u H', 0 ≤ u → u < m → n * u % m = 1 % m → SM H' H → Q (.int u) H'
theorem go_undone {n m : Int} {H Q E} (h0 : 0 ≤ n) (h1 : 1 ≤ m) (h2 : m < 2 ^ 7000) (h3 : Int.gcd m n = 1) (q : ∀ u H', 0 ≤ u → u < m → n * u % m = 1 % m → SM H' H → Q (.int u) H') : sp_undone [.int n, .int m] H Q E := ⟨n, m, rfl, h0, h1, h2, h3, q⟩
theorem ok_undone (T : Top K mg c) : Fn P w K mg base "undone" ["number", "modulus"] 1 sp_undone := by
  have iO_Writes : OwnI K (c 1) := ⟨T.o_Writes⟩
  have iA_Writes_number : NoaI K (c 1) "number" := ⟨T.a_Writes_number⟩
  have iK_Writes_Writes : KitI K (c 1) (c 1) true := ⟨T.q_Writes.kit T.k_Writes_Writes.1 T.k_Writes_Writes.2⟩
  have iO_Breaks : OwnI K (c 2) := ⟨T.o_Breaks⟩
  have iA_Breaks_place : NoaI K (c 2) "place" := ⟨T.a_Breaks_place⟩
  have iA_Breaks_left : NoaI K (c 2) "left" := ⟨T.a_Breaks_left⟩
  have iK_Breaks_Writes : KitI K (c 2) (c 1) false := ⟨T.q_Writes.kit T.k_Breaks_Writes.1 T.k_Breaks_Writes.2⟩
  have iO_Sum : OwnI K (c 3) := ⟨T.o_Sum⟩
  have iA_Sum_row : NoaI K (c 3) "row" := ⟨T.a_Sum_row⟩
  have iA_Sum_carries : NoaI K (c 3) "carries" := ⟨T.a_Sum_carries⟩
  have iK_Sum_Writes : KitI K (c 3) (c 1) false := ⟨T.q_Writes.kit T.k_Sum_Writes.1 T.k_Sum_Writes.2⟩
  have iO_Times : OwnI K (c 4) := ⟨T.o_Times⟩
  have iA_Times_row : NoaI K (c 4) "row" := ⟨T.a_Times_row⟩
  have iA_Times_carries : NoaI K (c 4) "carries" := ⟨T.a_Times_carries⟩
  have iK_Times_Writes : KitI K (c 4) (c 1) false := ⟨T.q_Writes.kit T.k_Times_Writes.1 T.k_Times_Writes.2⟩
  refine T.f_undone.ok sc_undone (fun vs H Q E h => ?_) (fun f cdv A outer s H vs Q E hr h => ?_)
  · obtain ⟨n, m, rfl, h0, h1, h2, h3, q⟩ := h
    rfl
  · obtain ⟨n, m, rfl, h0, h1, h2, h3, q⟩ := h
    refine ⟨_, (pss_cons (ps_asg (pe_tupB (pa_cons (pv 1) (pa_cons (pe_op op_mod (pv 0) (pv 1)) (pa_cons pe_int (pa_cons pe_int pa_nil))))) (pg_tupB (n := 4) rfl (pgs_cons (pg_name (i := 2) sc_undone.nd rfl (Or.inl rfl)) (pgs_cons (pg_name (i := 3) sc_undone.nd rfl (Or.inl rfl)) (pgs_cons (pg_name (i := 4) sc_undone.nd rfl (Or.inl rfl)) (pgs_cons (pg_name (i := 5) sc_undone.nd rfl (Or.inl rfl)) pgs_nil))))))
      (pss_cons (ps_while PassesOwn.never (pt_cmpR op_gt (pv 3) pe_int (nomark _)) (pss_cons (ps_set (i := 6) sc_undone.nd rfl (Or.inl rfl) (pe_op op_fdivW (pv 2) (pv 3)))
      (pss_cons (ps_par (i := 2) (j := 3) rfl sc_undone.nd rfl rfl (by decide) rfl rfl (pa_cons (pv 3) (pa_cons (pe_op op_sub (pv 2) (pe_op op_mulW (pv 6) (pv 3))) pa_nil)) rfl)
      (pss_one (ps_par (i := 4) (j := 5) rfl sc_undone.nd rfl rfl (by decide) rfl rfl (pa_cons (pv 5) (pa_cons (pe_op op_sub (pv 4) (pe_op op_mulW (pv 6) (pv 5))) pa_nil)) rfl)))))
      (pss_one (ps_ret (pe_op op_mod (pv 4) (pv 1)))))), ?_⟩
    walk_at "go"
    have i1 := Int.emod_nonneg n (show m ≠ 0 by omega)
    have i2 := Int.emod_lt_of_pos n (show 0 < m by omega)
    refine whM (fun k σ H' => ∃ (x y s t : Int) (v : Option V), σ = [some (.int n), some (.int m), some (.int x), some (.int y), some (.int s), some (.int t), v] ∧ 0 < x ∧ 0 ≤ y ∧ x ≤ m ∧ y < m ∧ Int.gcd x y = 1 ∧
        m ∣ n * s - x ∧ m ∣ n * t - y ∧ x * t.natAbs + y * s.natAbs ≤ m ∧ k = y.toNat ∧ SM H' H)
      ⟨_, m, n % m, 0, 1, _, rfl, by omega, i1, Int.le_refl _, i2, by rw [gcd_mod h0 (by omega)]; exact h3, ⟨-1, by omega⟩, ⟨n / m, by have := Int.mul_ediv_add_emod n m; omega⟩, by simp, rfl, smx⟩ ?_
    rintro k σ H' ⟨x, y, s, t, v, rfl, x0, y0, x1, y1, hg, ⟨q1, e1⟩, ⟨q2, e2⟩, hs, rfl, sH⟩
    have hm : Bd m := bd_lt (k := 7000) (by omega)
    walk_at "go"
    refine rd_D (fun hy => ?_) (fun hy => ?_)
    · refine ⟨_, fun _ _ h => h, ?_⟩
      have d0 : 0 ≤ x / y := Int.ediv_nonneg (by omega) y0
      have d1 := Int.mul_ediv_add_emod x y
      have d2 := Int.emod_nonneg x (show y ≠ 0 by omega)
      have d3 := Int.emod_lt_of_pos x hy
      have d4 : x / y ≤ x := Int.ediv_le_self _ (by omega)
      have ty : (t.natAbs : Int) ≤ x * t.natAbs := by
        have := Int.mul_le_mul_of_nonneg_right (show (1 : Int) ≤ x by omega) (Int.natCast_nonneg t.natAbs)
        omega
      have sy : 0 ≤ y * (s.natAbs : Int) := Int.mul_nonneg y0 (Int.natCast_nonneg _)
      have bt : Bd t := bd_lt (k := 7000) (by omega)
      have bq : Bd (x / y) := bd_le d0 d4 (bd_le (by omega) x1 hm)
      have by' : Bd y := bd_le y0 (by omega) hm
      walk_at "go"
      refine rd_I (divb hy (Nat.lt_of_lt_of_le (show y.natAbs < 2 ^ 7000 by omega) (Nat.pow_le_pow_right (by decide) (by decide)))) ?_
      walk_at "go"
      have e3 : x - x / y * y = x % y := by rw [Int.mul_comm (x / y) y]; omega
      refine ⟨_, ?_, y, x - x / y * y, t, s - x / y * t, _, rfl, hy, by omega, by omega, by omega, ?_, ⟨q2, e2⟩, ⟨q1 - x / y * q2, ?_⟩, ?_, rfl, smx⟩
      · omega
      · rw [e3, gcd_mod (by omega) y0, Int.gcd_comm]
        exact hg
      · have a1 : n * (s - x / y * t) = n * s - x / y * (n * t) := by rw [Int.mul_sub, Int.mul_left_comm]
        have a2 : m * (q1 - x / y * q2) = m * q1 - x / y * (m * q2) := by rw [Int.mul_sub, Int.mul_left_comm]
        rw [a1, a2, ← e1, ← e2, Int.mul_sub]
        omega
      · have n1 : ((s - x / y * t).natAbs : Int) ≤ s.natAbs + x / y * t.natAbs := by
          have h1 := Int.natAbs_sub_le s (x / y * t)
          rw [Int.natAbs_mul] at h1
          have h2 : ((x / y).natAbs : Int) = x / y := Int.natAbs_of_nonneg d0
          have h3 : (((x / y).natAbs * t.natAbs : Nat) : Int) = x / y * t.natAbs := by rw [Int.natCast_mul, h2]
          omega
        have n2 := Int.mul_le_mul_of_nonneg_left n1 y0
        rw [Int.mul_add] at n2
        have n3 : (x - x / y * y) * (t.natAbs : Int) = x * t.natAbs - y * (x / y * t.natAbs) := by
          rw [Int.sub_mul, Int.mul_comm (x / y) y, Int.mul_assoc]
        rw [n3]
        omega
    · have e0 : y = 0 := by omega
      subst e0
      have ex : x = 1 := by
        rw [Int.gcd_zero_right] at hg
        omega
      subst ex
      walk_at "go"
      refine q _ _ (Int.emod_nonneg _ (by omega)) (Int.emod_lt_of_pos _ (by omega)) ?_ smx
      have e4 := Int.mul_ediv_add_emod s m
      rw [show n * (s % m) = 1 + m * (q1 - n * (s / m)) from by
        rw [show s % m = s - m * (s / m) from by omega, Int.mul_sub, Int.mul_sub, Int.mul_left_comm n m]
        omega, Int.add_mul_emod_self_left]
theorem sc_ending : FnScope ["base", "row", "first", "step", "figure"] ["base", "row"] (defScope s_ending) := ⟨rfl, rfl, rfl, by decide +kernel, rfl, by decide +kernel, by decide +kernel⟩
def sp_ending : Sp := fun vs H Q _ => ∃ t p a b ns, vs = [.ref t, .ref p] ∧ OB H t (.tup [.int a, .int b]) ∧ GB a b ∧ OB H p (.lst (ns.map V.int)) ∧ figs a ns = true ∧ ns.length ≤ 40 ∧ ∀ f : Int, 0 ≤ f → f < a ^ ns.length → lastF a b ns.length f = ns → kNew Q (.tup [.int f, .int (a ^ ns.length)]) H
theorem go_ending {t p a b xs ns H Q E} [o : OB H t (.tup [.int a, .int b])] [o2 : OB H p (.lst xs)] [e : ILs xs ns] (g : GB a b) (hf : figs a ns = true) (hl : ns.length ≤ 40) (q : ∀ f : Int, 0 ≤ f → f < a ^ ns.length → lastF a b ns.length f = ns → kNew Q (.tup [.int f, .int (a ^ ns.length)]) H) : sp_ending [.ref t, .ref p] H Q E := ⟨t, p, a, b, ns, rfl, o, g, ob_ints e o2, hf, hl, q⟩
theorem ok_ending (T : Top K mg c) : Fn P w K mg base "ending" ["base", "row"] 3 sp_ending := by
  have F_check_base := ok_check_base (P := P) (w := w) (base := base) T
  have F_are_figures := ok_are_figures (P := P) (w := w) (base := base) T
  have F_undone := ok_undone (P := P) (w := w) (base := base) T
  have iO_Writes : OwnI K (c 1) := ⟨T.o_Writes⟩
  have iA_Writes_number : NoaI K (c 1) "number" := ⟨T.a_Writes_number⟩
  have iK_Writes_Writes : KitI K (c 1) (c 1) true := ⟨T.q_Writes.kit T.k_Writes_Writes.1 T.k_Writes_Writes.2⟩
  have iO_Breaks : OwnI K (c 2) := ⟨T.o_Breaks⟩
  have iA_Breaks_place : NoaI K (c 2) "place" := ⟨T.a_Breaks_place⟩
  have iA_Breaks_left : NoaI K (c 2) "left" := ⟨T.a_Breaks_left⟩
  have iK_Breaks_Writes : KitI K (c 2) (c 1) false := ⟨T.q_Writes.kit T.k_Breaks_Writes.1 T.k_Breaks_Writes.2⟩
  have iO_Sum : OwnI K (c 3) := ⟨T.o_Sum⟩
  have iA_Sum_row : NoaI K (c 3) "row" := ⟨T.a_Sum_row⟩
  have iA_Sum_carries : NoaI K (c 3) "carries" := ⟨T.a_Sum_carries⟩
  have iK_Sum_Writes : KitI K (c 3) (c 1) false := ⟨T.q_Writes.kit T.k_Sum_Writes.1 T.k_Sum_Writes.2⟩
  have iO_Times : OwnI K (c 4) := ⟨T.o_Times⟩
  have iA_Times_row : NoaI K (c 4) "row" := ⟨T.a_Times_row⟩
  have iA_Times_carries : NoaI K (c 4) "carries" := ⟨T.a_Times_carries⟩
  have iK_Times_Writes : KitI K (c 4) (c 1) false := ⟨T.q_Writes.kit T.k_Times_Writes.1 T.k_Times_Writes.2⟩
  refine T.f_ending.ok sc_ending (fun vs H Q E h => ?_) (fun f cdv A outer s H vs Q E hr h => ?_)
  · obtain ⟨t, p, a, b, ns, rfl, o, g, o2, hf, hl, q⟩ := h
    rfl
  · obtain ⟨t, p, a, b, ns, rfl, o, g, o2, hf, hl, q⟩ := h
    refine ⟨_, (pss_cons (ps_expr (pe_fn F_check_base hr rfl (pa_cons (pv 0) pa_nil)))
      (pss_cons (ps_if (PW.pt (pw_or (pt_not (pt_val (pe_fn F_are_figures hr rfl (pa_cons (pv 0) (pa_cons (pv 1) pa_nil))))) (pw_or1 (pt_cmpR op_gt (pe_callB cr_lenB rfl T.n_len (by decide +kernel) (pa_cons (pv 1) pa_nil)) (pe_glob (v := .int 40) rfl (T.c_MOST_endings).choose_spec ⟨_, rfl⟩) (nomark _))))) (pss_one ps_never) pss_nil)
      (pss_cons (ps_asg (pe_tupB (pa_cons pe_int (pa_cons pe_int pa_nil))) (pg_tupB (n := 2) rfl (pgs_cons (pg_name (i := 2) sc_ending.nd rfl (Or.inl rfl)) (pgs_cons (pg_name (i := 3) sc_ending.nd rfl (Or.inl rfl)) pgs_nil))))
      (pss_cons (ps_for PassesOwn.never rfl (pi_listK (K := K) rfl (pv 1)) (pg_name (i := 4) sc_ending.nd rfl (Or.inl rfl))
      (pss_cons (ps_set (i := 3) sc_ending.nd rfl (Or.inl rfl) (pe_op op_mulW (pv 3) (pe_ix ix_tupB (pv 0) pe_int (fun _ _ => rfl))))
      (pss_one (ps_set (i := 2) sc_ending.nd rfl (Or.inl rfl) (pe_op op_mod (pe_op op_mulW (pe_op op_add (pe_op op_mulW (pe_ix ix_tupB (pv 0) pe_int (fun _ _ => rfl)) (pv 2)) (pv 4)) (pe_fn F_undone hr rfl (pa_cons (pe_ix ix_tupB (pv 0) pe_int (fun _ _ => rfl)) (pa_cons (pv 3) pa_nil)))) (pv 3))))))
      (pss_one (ps_ret (pe_tupB (pa_cons (pv 2) (pa_cons (pv 3) pa_nil))))))))), ?_⟩
    have gg := g.ok
    walk_at "go"
    refine go_check_base g fun H1 s1 => ?_
    walk_at "go"
    refine go_are_figures (by omega) fun H2 s2 => ?_
    walk_at "go"
    refine rd_nF hf ?_
    walk_at "go"
    have hn : (ns.map V.int).length = ns.length := by simp
    refine forM (it_list (xs := ns.map V.int)) (fun i σ H' => ∃ (f : Int) (v : Option V), σ = [some (.ref t), some (.ref p), some (.int f), some (.int (a ^ i)), v] ∧ 0 ≤ f ∧ f < a ^ i ∧ lastF a b i f = ns.take i ∧ SM H' H2) ⟨0, none, by rw [Int.pow_zero] <;> rfl, Int.le_refl _, by simp, rfl, smx⟩ (fun _ _ _ ⟨_, _, _, _, _, _, _⟩ => inferInstance) ?_ ?_
    · rintro i v σ H3 H3' hi ⟨f, v0, rfl, f0, f1, fl, s3⟩ ⟨rfl, hv⟩
      have hi2 : i < ns.length := by omega
      have e : v = .int ns[i] := by
        rw [List.getElem?_map, List.getElem?_eq_getElem hi2] at hv
        exact (Option.some.inj hv).symm
      subst e
      have hx : 0 ≤ ns[i] ∧ ns[i] < a := figs_get hf hi2
      generalize hz : ns[i] = z at hx
      have pw := pow_lt (show 0 ≤ a by omega) gg.2.1 i
      have pw2 := pow_lt (show 0 ≤ a by omega) gg.2.1 (i + 1)
      have pl : (2 : Nat) ^ (6 * i + 1) ≤ 2 ^ 300 := Nat.pow_le_pow_right (by decide) (by omega)
      have pl2 : (2 : Nat) ^ (6 * (i + 1) + 1) ≤ 2 ^ 300 := Nat.pow_le_pow_right (by decide) (by omega)
      have pp := pow_pos' (show 0 < a by omega) (i + 1)
      have bp : Bd (a ^ i) := bd_lt (k := 300) (by omega)
      have bf : Bd f := bd_lt (k := 300) (by omega)
      walk_at "go"
      have ep : a ^ i * a = a ^ (i + 1) := (Int.pow_succ a i).symm
      rw [ep]
      refine go_undone (by omega) (by omega) (by omega) (by exact g.cop (i + 1)) fun u H4 u0 u1 hu s4 => ?_
      refine rd_I (mulw (bd_lt (k := 400) ?_) (bd_lt (k := 400) (by omega))) ?_
      · have h4 : a * f ≤ 60 * f := Int.mul_le_mul_of_nonneg_right gg.2.1 f0
        have h5 : 0 ≤ a * f := Int.mul_nonneg (by omega) f0
        omega
      walk_at "go"
      refine ⟨_, _, rfl, Int.emod_nonneg _ (by omega), Int.emod_lt_of_pos _ pp, ?_, smx⟩
      rw [List.take_succ_eq_append_getElem hi2, hz]
      exact end_step g hx.1 hx.2 fl hu
    · rintro σ H3 ⟨f, v0, rfl, f0, f1, fl, s3⟩
      rw [hn] at f1 fl ⊢
      rw [List.take_length] at fl
      walk_at "go"
      exact kret (q f f0 f1 fl)
theorem sc_law_cell_at : FnScope ["_law_script", "_law_k"] ["_law_script", "_law_k"] (defScope s_law_cell_at) := ⟨rfl, rfl, rfl, by decide +kernel, rfl, by decide +kernel, by decide +kernel⟩
def sp_law_cell_at (K : PySem.W.Frag) : Sp := fun vs H Q _ => ∃ a ns k, vs = [.ref a, .int k] ∧ IR K H a ns ∧ 0 ≤ k ∧ ∀ c, Q (.int c) H
theorem go_law_cell_at {K a ns k H Q E} [o : IR K H a ns] (h0 : 0 ≤ k) (q : ∀ c, Q (.int c) H) : sp_law_cell_at K [.ref a, .int k] H Q E := ⟨a, ns, k, rfl, o, h0, q⟩
theorem ok_law_cell_at (T : Top K mg c) : Fn P w K mg base "_law_cell_at" ["_law_script", "_law_k"] 1 (sp_law_cell_at K) := by
  have iO_Writes : OwnI K (c 1) := ⟨T.o_Writes⟩
  have iA_Writes_number : NoaI K (c 1) "number" := ⟨T.a_Writes_number⟩
  have iK_Writes_Writes : KitI K (c 1) (c 1) true := ⟨T.q_Writes.kit T.k_Writes_Writes.1 T.k_Writes_Writes.2⟩
  have iO_Breaks : OwnI K (c 2) := ⟨T.o_Breaks⟩
  have iA_Breaks_place : NoaI K (c 2) "place" := ⟨T.a_Breaks_place⟩
  have iA_Breaks_left : NoaI K (c 2) "left" := ⟨T.a_Breaks_left⟩
  have iK_Breaks_Writes : KitI K (c 2) (c 1) false := ⟨T.q_Writes.kit T.k_Breaks_Writes.1 T.k_Breaks_Writes.2⟩
  have iO_Sum : OwnI K (c 3) := ⟨T.o_Sum⟩
  have iA_Sum_row : NoaI K (c 3) "row" := ⟨T.a_Sum_row⟩
  have iA_Sum_carries : NoaI K (c 3) "carries" := ⟨T.a_Sum_carries⟩
  have iK_Sum_Writes : KitI K (c 3) (c 1) false := ⟨T.q_Writes.kit T.k_Sum_Writes.1 T.k_Sum_Writes.2⟩
  have iO_Times : OwnI K (c 4) := ⟨T.o_Times⟩
  have iA_Times_row : NoaI K (c 4) "row" := ⟨T.a_Times_row⟩
  have iA_Times_carries : NoaI K (c 4) "carries" := ⟨T.a_Times_carries⟩
  have iK_Times_Writes : KitI K (c 4) (c 1) false := ⟨T.q_Writes.kit T.k_Times_Writes.1 T.k_Times_Writes.2⟩
  refine T.f_law_cell_at.ok sc_law_cell_at (fun vs H Q E h => ?_) (fun f cdv A outer s H vs Q E hr h => ?_)
  · obtain ⟨a, ns, k, rfl, o, h0, q⟩ := h
    rfl
  · obtain ⟨a, ns, k, rfl, o, h0, q⟩ := h
    refine ⟨_, (pss_cons (ps_if (pt_cmpR op_lt (pv 1) (pe_callB (cr_lenRB (K := K) rfl) rfl T.n_len (by decide +kernel) (pa_cons (pv 0) pa_nil)) (nomark _)) (pss_one (ps_ret (pe_ix (ix_rdB (K := K) rfl) (pv 0) (pv 1) (fun _ _ => rfl)))) pss_nil)
      (pss_one (ps_ret pe_int))), ?_⟩
    walk_at "go"
    refine rd_D (fun hk => ?_) (fun hk => ?_)
    · walk_at "go"
      refine rd_ixRI h0 hk ?_
      walk_at "go"
      exact q _
    · walk_at "go"
      exact q _
theorem sc_law_draw : FnScope ["_law_cell", "_law_k", "_law_most", "_law_primes"] ["_law_cell", "_law_k", "_law_most"] (defScope s_law_draw) := ⟨rfl, rfl, rfl, by decide +kernel, rfl, by decide +kernel, by decide +kernel⟩
def sp_law_draw : Sp := fun vs H Q _ => ∃ c k m, vs = [.int c, .int k, .int m] ∧ Bd c ∧ Bd k ∧ 0 < m ∧ ∀ r H', 0 ≤ r → r < m → SM H' H → Q (.int r) H'
theorem go_law_draw {c k m H Q E} (hc : Bd c) (hk : Bd k) (hm : 0 < m) (q : ∀ r H', 0 ≤ r → r < m → SM H' H → Q (.int r) H') : sp_law_draw [.int c, .int k, .int m] H Q E := ⟨c, k, m, rfl, hc, hk, hm, q⟩
theorem ok_law_draw (T : Top K mg c) : Fn P w K mg base "_law_draw" ["_law_cell", "_law_k", "_law_most"] 1 sp_law_draw := by
  have iO_Writes : OwnI K (c 1) := ⟨T.o_Writes⟩
  have iA_Writes_number : NoaI K (c 1) "number" := ⟨T.a_Writes_number⟩
  have iK_Writes_Writes : KitI K (c 1) (c 1) true := ⟨T.q_Writes.kit T.k_Writes_Writes.1 T.k_Writes_Writes.2⟩
  have iO_Breaks : OwnI K (c 2) := ⟨T.o_Breaks⟩
  have iA_Breaks_place : NoaI K (c 2) "place" := ⟨T.a_Breaks_place⟩
  have iA_Breaks_left : NoaI K (c 2) "left" := ⟨T.a_Breaks_left⟩
  have iK_Breaks_Writes : KitI K (c 2) (c 1) false := ⟨T.q_Writes.kit T.k_Breaks_Writes.1 T.k_Breaks_Writes.2⟩
  have iO_Sum : OwnI K (c 3) := ⟨T.o_Sum⟩
  have iA_Sum_row : NoaI K (c 3) "row" := ⟨T.a_Sum_row⟩
  have iA_Sum_carries : NoaI K (c 3) "carries" := ⟨T.a_Sum_carries⟩
  have iK_Sum_Writes : KitI K (c 3) (c 1) false := ⟨T.q_Writes.kit T.k_Sum_Writes.1 T.k_Sum_Writes.2⟩
  have iO_Times : OwnI K (c 4) := ⟨T.o_Times⟩
  have iA_Times_row : NoaI K (c 4) "row" := ⟨T.a_Times_row⟩
  have iA_Times_carries : NoaI K (c 4) "carries" := ⟨T.a_Times_carries⟩
  have iK_Times_Writes : KitI K (c 4) (c 1) false := ⟨T.q_Writes.kit T.k_Times_Writes.1 T.k_Times_Writes.2⟩
  refine T.f_law_draw.ok sc_law_draw (fun vs H Q E h => ?_) (fun f cdv A outer s H vs Q E hr h => ?_)
  · obtain ⟨c, k, m, rfl, hc, hk, hm, q⟩ := h
    rfl
  · obtain ⟨c, k, m, rfl, hc, hk, hm, q⟩ := h
    refine ⟨_, (pss_cons (ps_set (i := 3) sc_law_draw.nd rfl (Or.inl rfl) (pe_tupB (pa_cons pe_int (pa_cons pe_int (pa_cons pe_int (pa_cons pe_int (pa_cons pe_int (pa_cons pe_int (pa_cons pe_int (pa_cons pe_int (pa_cons pe_int (pa_cons pe_int (pa_cons pe_int (pa_cons pe_int (pa_cons pe_int (pa_cons pe_int (pa_cons pe_int (pa_cons pe_int pa_nil))))))))))))))))))
      (pss_one (ps_ret (pe_op op_mod (pe_op op_mod (pe_op op_add (pe_op op_mulW (pv 0) pe_int) (pe_op op_mulW (pv 1) pe_int)) (pe_ix ix_tupB (pv 3) (pe_op op_mod (pv 1) pe_int) (fun _ _ => rfl))) (pv 2))))), ?_⟩
    walk_at "go"
    have h1 := Int.emod_nonneg k (show (16 : Int) ≠ 0 by decide)
    have h2 := Int.emod_lt_of_pos k (show (0 : Int) < 16 by decide)
    refine rd_ixTI [1000003, 1000033, 1000037, 1000039, 1000081, 1000099, 1000117, 1000121, 1000133, 1000151, 1000159, 1000171, 1000183, 1000187, 1000193, 1000199] rfl h1 (by simp; omega) ?_
    have h3 : ∀ j : Nat, j < 16 → 0 < ([1000003, 1000033, 1000037, 1000039, 1000081, 1000099, 1000117, 1000121, 1000133, 1000151, 1000159, 1000171, 1000183, 1000187, 1000193, 1000199] : List Int).getD j 0 := by decide
    have h4 := h3 (k % 16).toNat (by omega)
    walk_at "go"
    exact q _ _ (Int.emod_nonneg _ (by omega)) (Int.emod_lt_of_pos _ hm) smx
theorem sc_law_number : FnScope ["_law_cell", "_law_k", "_law_limit", "_law_small"] ["_law_cell", "_law_k", "_law_limit"] (defScope s_law_number) := ⟨rfl, rfl, rfl, by decide +kernel, rfl, by decide +kernel, by decide +kernel⟩
def sp_law_number : Sp := fun vs H Q _ => ∃ c k m, vs = [.int c, .int k, .int m] ∧ Bd m ∧ 0 ≤ k ∧ k < 1000000 ∧ 0 < m ∧ ∀ r H', 0 ≤ r → r < m → SM H' H → Q (.int r) H'
theorem go_law_number {c k m H Q E} (hb : Bd m) (h0 : 0 ≤ k) (h1 : k < 1000000) (hm : 0 < m) (q : ∀ r H', 0 ≤ r → r < m → SM H' H → Q (.int r) H') : sp_law_number [.int c, .int k, .int m] H Q E := ⟨c, k, m, rfl, hb, h0, h1, hm, q⟩
theorem ok_law_number (T : Top K mg c) : Fn P w K mg base "_law_number" ["_law_cell", "_law_k", "_law_limit"] 2 sp_law_number := by
  have F_law_draw := ok_law_draw (P := P) (w := w) (base := base) T
  have iO_Writes : OwnI K (c 1) := ⟨T.o_Writes⟩
  have iA_Writes_number : NoaI K (c 1) "number" := ⟨T.a_Writes_number⟩
  have iK_Writes_Writes : KitI K (c 1) (c 1) true := ⟨T.q_Writes.kit T.k_Writes_Writes.1 T.k_Writes_Writes.2⟩
  have iO_Breaks : OwnI K (c 2) := ⟨T.o_Breaks⟩
  have iA_Breaks_place : NoaI K (c 2) "place" := ⟨T.a_Breaks_place⟩
  have iA_Breaks_left : NoaI K (c 2) "left" := ⟨T.a_Breaks_left⟩
  have iK_Breaks_Writes : KitI K (c 2) (c 1) false := ⟨T.q_Writes.kit T.k_Breaks_Writes.1 T.k_Breaks_Writes.2⟩
  have iO_Sum : OwnI K (c 3) := ⟨T.o_Sum⟩
  have iA_Sum_row : NoaI K (c 3) "row" := ⟨T.a_Sum_row⟩
  have iA_Sum_carries : NoaI K (c 3) "carries" := ⟨T.a_Sum_carries⟩
  have iK_Sum_Writes : KitI K (c 3) (c 1) false := ⟨T.q_Writes.kit T.k_Sum_Writes.1 T.k_Sum_Writes.2⟩
  have iO_Times : OwnI K (c 4) := ⟨T.o_Times⟩
  have iA_Times_row : NoaI K (c 4) "row" := ⟨T.a_Times_row⟩
  have iA_Times_carries : NoaI K (c 4) "carries" := ⟨T.a_Times_carries⟩
  have iK_Times_Writes : KitI K (c 4) (c 1) false := ⟨T.q_Writes.kit T.k_Times_Writes.1 T.k_Times_Writes.2⟩
  refine T.f_law_number.ok sc_law_number (fun vs H Q E h => ?_) (fun f cdv A outer s H vs Q E hr h => ?_)
  · obtain ⟨c, k, m, rfl, hb, h0, h1, hm, q⟩ := h
    rfl
  · obtain ⟨c, k, m, rfl, hb, h0, h1, hm, q⟩ := h
    refine ⟨_, (pss_cons (ps_if (pt_cmpR op_ge (pv 0) (pe_op (op_powL 10 18) pe_int pe_int) (nomark _)) (pss_one (ps_ret (pe_op op_mod (pe_op op_fdivW (pe_op op_sub (pv 0) (pe_op (op_powL 10 18) pe_int pe_int)) (pe_ix ix_tupB (pe_tupB (pa_cons pe_int (pa_cons pe_int (pa_cons pe_int (pa_cons pe_int (pa_cons pe_int pa_nil)))))) (pe_op op_mod (pv 1) pe_int) (fun _ _ => rfl))) (pv 2)))) pss_nil)
      (pss_cons (ps_set (i := 3) sc_law_number.nd rfl (Or.inl rfl) (pe_op op_mod (pv 0) pe_int))
      (pss_one (ps_ret (pe_op op_mod (pe_fn F_law_draw hr rfl (pa_cons (pe_op op_mulW (pe_op op_add (pv 3) (pe_op op_mulW pe_int (pv 1))) (pe_op op_add (pe_op op_add (pv 3) (pe_op op_mulW pe_int (pv 1))) pe_int)) (pa_cons (pe_op op_add (pe_op op_mod (pv 1) pe_int) pe_int) (pa_cons pe_int pa_nil)))) (pv 2)))))), ?_⟩
    walk_at "go"
    refine rd_D (fun hc => ?_) (fun hc => ?_)
    · walk_at "go"
      refine rd_ixTI [1, 7, 49, 343, 2401] rfl (by omega) (by simp; omega) ?_
      have h3 : ∀ j : Nat, j < 5 → 0 < ([1, 7, 49, 343, 2401] : List Int).getD j 0 ∧ ([1, 7, 49, 343, 2401] : List Int).getD j 0 < 3000 := by decide
      obtain ⟨h4, h5⟩ := h3 (k % 5).toNat (by omega)
      generalize ([1, 7, 49, 343, 2401] : List Int).getD (k % 5).toNat 0 = d at h4 h5 ⊢
      walk_at "go"
      exact q _ _ (Int.emod_nonneg _ (by omega)) (Int.emod_lt_of_pos _ hm) smx
    · walk_at "go"
      try (refine rd_I (mulw (bd_lt (k := 200) (by omega)) (bd_lt (k := 200) (by omega))) ?_; walk_at "go")
      refine go_law_draw (bd_lt (wide_lt (a := 200) (b := 200) (by omega) (by omega)) (by decide)) (bd_s (by omega)) (by omega) ?_
      intro r H2 _ _ s2
      walk_at "go"
      exact q _ _ (Int.emod_nonneg _ (by omega)) (Int.emod_lt_of_pos _ hm) smx
theorem sc_law_deep : FnScope ["_law_thing", "_law_one"] ["_law_thing"] (defScope s_law_deep) := ⟨rfl, rfl, rfl, by decide +kernel, rfl, by decide +kernel, by decide +kernel⟩
def sp_law_deep (K : PySem.W.Frag) (d : Nat) : Sp := fun vs H Q _ => ∃ v, vs = [v] ∧ ((∃ n, v = .int n ∧ Q (.int n) H) ∨ (1 ≤ d ∧ ∃ (p : Addr) (ns : List Int), v = .ref p ∧ OB H p (.lst (ns.map V.int)) ∧ ns.length ≤ 2000 ∧ kNew Q (.lst (ns.map V.int)) H) ∨
  (2 ≤ d ∧ ∃ (p : Addr) (xs : List V) (nss : List (List Int)), v = .ref p ∧ OB H p (.lst xs) ∧ Fa (LI H) xs nss ∧ xs.length ≤ 2000 ∧ (∀ ns ∈ nss, ns.length ≤ 2000) ∧ ∀ h ys H', SM H' H → FR0 H h → OB H' h (.lst ys) → Fa (LI H') ys nss → NewL H h ys → Q (.ref h) H'))
theorem go_law_deep_int {K : PySem.W.Frag} {d : Nat} {n : Int} {H : Hp} {Q : VK} {E : XK} (q : Q (.int n) H) : sp_law_deep K d [.int n] H Q E := ⟨_, rfl, .inl ⟨n, rfl, q⟩⟩
theorem go_law_deep_row {K : PySem.W.Frag} {d : Nat} {p : Addr} {xs : List V} {ns : List Int} {H : Hp} {Q : VK} {E : XK} [o : OB H p (.lst xs)] [e : ILs xs ns] (hd : 1 ≤ d) (hl : ns.length ≤ 2000) (q : kNew Q (.lst (ns.map V.int)) H) : sp_law_deep K d [.ref p] H Q E := ⟨_, rfl, .inr (.inl ⟨hd, p, ns, rfl, ob_ints e o, hl, q⟩)⟩
theorem go_law_deep_rows {K : PySem.W.Frag} {d : Nat} {p : Addr} {xs : List V} {nss : List (List Int)} {H : Hp} {Q : VK} {E : XK} [o : OB H p (.lst xs)] (hd : 2 ≤ d) (f : Fa (LI H) xs nss) (hl : xs.length ≤ 2000) (hn : ∀ ns ∈ nss, ns.length ≤ 2000) (q : ∀ h ys H', SM H' H → FR0 H h → OB H' h (.lst ys) → Fa (LI H') ys nss → NewL H h ys → Q (.ref h) H') : sp_law_deep K d [.ref p] H Q E := ⟨_, rfl, .inr (.inr ⟨hd, p, xs, nss, rfl, o, f, hl, hn, q⟩)⟩
theorem ok_law_deep_0 (T : Top K mg c) : Fn P w K mg base "_law_deep" ["_law_thing"] 1 (sp_law_deep K 0) := by
  have iO_Writes : OwnI K (c 1) := ⟨T.o_Writes⟩
  have iA_Writes_number : NoaI K (c 1) "number" := ⟨T.a_Writes_number⟩
  have iK_Writes_Writes : KitI K (c 1) (c 1) true := ⟨T.q_Writes.kit T.k_Writes_Writes.1 T.k_Writes_Writes.2⟩
  have iO_Breaks : OwnI K (c 2) := ⟨T.o_Breaks⟩
  have iA_Breaks_place : NoaI K (c 2) "place" := ⟨T.a_Breaks_place⟩
  have iA_Breaks_left : NoaI K (c 2) "left" := ⟨T.a_Breaks_left⟩
  have iK_Breaks_Writes : KitI K (c 2) (c 1) false := ⟨T.q_Writes.kit T.k_Breaks_Writes.1 T.k_Breaks_Writes.2⟩
  have iO_Sum : OwnI K (c 3) := ⟨T.o_Sum⟩
  have iA_Sum_row : NoaI K (c 3) "row" := ⟨T.a_Sum_row⟩
  have iA_Sum_carries : NoaI K (c 3) "carries" := ⟨T.a_Sum_carries⟩
  have iK_Sum_Writes : KitI K (c 3) (c 1) false := ⟨T.q_Writes.kit T.k_Sum_Writes.1 T.k_Sum_Writes.2⟩
  have iO_Times : OwnI K (c 4) := ⟨T.o_Times⟩
  have iA_Times_row : NoaI K (c 4) "row" := ⟨T.a_Times_row⟩
  have iA_Times_carries : NoaI K (c 4) "carries" := ⟨T.a_Times_carries⟩
  have iK_Times_Writes : KitI K (c 4) (c 1) false := ⟨T.q_Writes.kit T.k_Times_Writes.1 T.k_Times_Writes.2⟩
  refine T.f_law_deep.ok sc_law_deep (fun vs H Q E h => ?_) (fun f cdv A outer s H vs Q E hr h => ?_)
  · obtain ⟨v, rfl, hq⟩ := h
    rfl
  · obtain ⟨v, rfl, hq⟩ := h
    refine ⟨_, (pss_cons (ps_if (pt_val (pe_callB (cr_isiB (K := K) rfl) rfl T.n_isinstance (by decide +kernel) (pa_cons (pv 0) (pa_cons (pe_bltn (v := .ty "list") (u := .type "list") rfl T.n_list (by decide +kernel) rfl) pa_nil)))) (pss_one (ps_ret (pe_lc (own := [("_law_one", 1)]) (g := gName 1) (tt := tYes) rfl sc_law_deep.nd (pi_listK (K := K) rfl (pv 0)) (blkOk_by (own := [("_law_one", 1)]) (N := ["_law_thing", "_law_one"]) (sc := defScope s_law_deep) (by decide +kernel)) (fun _ _ _ _ _ => (pg_name (i := 1) sc_law_deep.nd rfl (Or.inl rfl))) (fun _ _ _ _ _ => pts_nil) (fun _ _ _ _ _ => pe_nev)))) pss_nil)
      (pss_one (ps_ret (pe_ifExp (pt_val (pe_callB (cr_isiB (K := K) rfl) rfl T.n_isinstance (by decide +kernel) (pa_cons (pv 0) (pa_cons (pe_bltn (v := .ty "tuple") (u := .type "tuple") rfl T.n_tuple (by decide +kernel) rfl) pa_nil)))) pe_nev (pv 0))))), ?_⟩
    rcases hq with ⟨n, rfl, q⟩ | ⟨hd, p, ns, rfl, o, hl, q⟩ | ⟨hd, p, xs, nss, rfl, o, hx, hl, hn, q⟩
    · walk_at "go"
      exact q
    · omega
    · omega
theorem ok_law_deep_1 (T : Top K mg c) : Fn P w K mg base "_law_deep" ["_law_thing"] 2 (sp_law_deep K 1) := by
  have F_law_deep := ok_law_deep_0 (P := P) (w := w) (base := base) T
  have iO_Writes : OwnI K (c 1) := ⟨T.o_Writes⟩
  have iA_Writes_number : NoaI K (c 1) "number" := ⟨T.a_Writes_number⟩
  have iK_Writes_Writes : KitI K (c 1) (c 1) true := ⟨T.q_Writes.kit T.k_Writes_Writes.1 T.k_Writes_Writes.2⟩
  have iO_Breaks : OwnI K (c 2) := ⟨T.o_Breaks⟩
  have iA_Breaks_place : NoaI K (c 2) "place" := ⟨T.a_Breaks_place⟩
  have iA_Breaks_left : NoaI K (c 2) "left" := ⟨T.a_Breaks_left⟩
  have iK_Breaks_Writes : KitI K (c 2) (c 1) false := ⟨T.q_Writes.kit T.k_Breaks_Writes.1 T.k_Breaks_Writes.2⟩
  have iO_Sum : OwnI K (c 3) := ⟨T.o_Sum⟩
  have iA_Sum_row : NoaI K (c 3) "row" := ⟨T.a_Sum_row⟩
  have iA_Sum_carries : NoaI K (c 3) "carries" := ⟨T.a_Sum_carries⟩
  have iK_Sum_Writes : KitI K (c 3) (c 1) false := ⟨T.q_Writes.kit T.k_Sum_Writes.1 T.k_Sum_Writes.2⟩
  have iO_Times : OwnI K (c 4) := ⟨T.o_Times⟩
  have iA_Times_row : NoaI K (c 4) "row" := ⟨T.a_Times_row⟩
  have iA_Times_carries : NoaI K (c 4) "carries" := ⟨T.a_Times_carries⟩
  have iK_Times_Writes : KitI K (c 4) (c 1) false := ⟨T.q_Writes.kit T.k_Times_Writes.1 T.k_Times_Writes.2⟩
  refine T.f_law_deep.ok sc_law_deep (fun vs H Q E h => ?_) (fun f cdv A outer s H vs Q E hr h => ?_)
  · obtain ⟨v, rfl, hq⟩ := h
    rfl
  · obtain ⟨v, rfl, hq⟩ := h
    refine ⟨_, (pss_cons (ps_if (pt_val (pe_callB (cr_isiB (K := K) rfl) rfl T.n_isinstance (by decide +kernel) (pa_cons (pv 0) (pa_cons (pe_bltn (v := .ty "list") (u := .type "list") rfl T.n_list (by decide +kernel) rfl) pa_nil)))) (pss_one (ps_ret (pe_lc (own := [("_law_one", 1)]) (g := gName 1) (tt := tYes) rfl sc_law_deep.nd (pi_listK (K := K) rfl (pv 0)) (blkOk_by (own := [("_law_one", 1)]) (N := ["_law_thing", "_law_one"]) (sc := defScope s_law_deep) (by decide +kernel)) (fun _ _ _ _ _ => (pg_name (i := 1) sc_law_deep.nd rfl (Or.inl rfl))) (fun _ _ _ _ _ => pts_nil) (fun _ _ _ _ _ => (pe_fn F_law_deep hr rfl (pa_cons (pv 1) pa_nil)))))) pss_nil)
      (pss_one (ps_ret (pe_ifExp (pt_val (pe_callB (cr_isiB (K := K) rfl) rfl T.n_isinstance (by decide +kernel) (pa_cons (pv 0) (pa_cons (pe_bltn (v := .ty "tuple") (u := .type "tuple") rfl T.n_tuple (by decide +kernel) rfl) pa_nil)))) pe_nev (pv 0))))), ?_⟩
    rcases hq with ⟨n, rfl, q⟩ | ⟨hd, p, ns, rfl, o, hl, q⟩ | ⟨hd, p, xs, nss, rfl, o, hx, hl, hn, q⟩
    · walk_at "go"
      exact q
    · walk_at "go"
      refine lcMap ns V.int (it_list (xs := ns.map V.int)) (by simp) (by omega) (fun H' s => inferInstance) ?_ ?_
      · rintro i x v H' H'' hi s ⟨rfl, hv⟩ Nt Nf ht
        have e : v = .int x := by
          rw [List.getElem?_map, hi] at hv
          exact (Option.some.inj hv).symm
        subst e
        walk_at "go"
        refine go_law_deep_int ?_
        exact ht _ smx
      · intro D H1 s1 f1 o1
        exact q D H1 s1 f1 o1
    · omega
theorem ok_law_deep (T : Top K mg c) : Fn P w K mg base "_law_deep" ["_law_thing"] 3 (sp_law_deep K 2) := by
  have F_law_deep := ok_law_deep_1 (P := P) (w := w) (base := base) T
  have iO_Writes : OwnI K (c 1) := ⟨T.o_Writes⟩
  have iA_Writes_number : NoaI K (c 1) "number" := ⟨T.a_Writes_number⟩
  have iK_Writes_Writes : KitI K (c 1) (c 1) true := ⟨T.q_Writes.kit T.k_Writes_Writes.1 T.k_Writes_Writes.2⟩
  have iO_Breaks : OwnI K (c 2) := ⟨T.o_Breaks⟩
  have iA_Breaks_place : NoaI K (c 2) "place" := ⟨T.a_Breaks_place⟩
  have iA_Breaks_left : NoaI K (c 2) "left" := ⟨T.a_Breaks_left⟩
  have iK_Breaks_Writes : KitI K (c 2) (c 1) false := ⟨T.q_Writes.kit T.k_Breaks_Writes.1 T.k_Breaks_Writes.2⟩
  have iO_Sum : OwnI K (c 3) := ⟨T.o_Sum⟩
  have iA_Sum_row : NoaI K (c 3) "row" := ⟨T.a_Sum_row⟩
  have iA_Sum_carries : NoaI K (c 3) "carries" := ⟨T.a_Sum_carries⟩
  have iK_Sum_Writes : KitI K (c 3) (c 1) false := ⟨T.q_Writes.kit T.k_Sum_Writes.1 T.k_Sum_Writes.2⟩
  have iO_Times : OwnI K (c 4) := ⟨T.o_Times⟩
  have iA_Times_row : NoaI K (c 4) "row" := ⟨T.a_Times_row⟩
  have iA_Times_carries : NoaI K (c 4) "carries" := ⟨T.a_Times_carries⟩
  have iK_Times_Writes : KitI K (c 4) (c 1) false := ⟨T.q_Writes.kit T.k_Times_Writes.1 T.k_Times_Writes.2⟩
  refine T.f_law_deep.ok sc_law_deep (fun vs H Q E h => ?_) (fun f cdv A outer s H vs Q E hr h => ?_)
  · obtain ⟨v, rfl, hq⟩ := h
    rfl
  · obtain ⟨v, rfl, hq⟩ := h
    refine ⟨_, (pss_cons (ps_if (pt_val (pe_callB (cr_isiB (K := K) rfl) rfl T.n_isinstance (by decide +kernel) (pa_cons (pv 0) (pa_cons (pe_bltn (v := .ty "list") (u := .type "list") rfl T.n_list (by decide +kernel) rfl) pa_nil)))) (pss_one (ps_ret (pe_lc (own := [("_law_one", 1)]) (g := gName 1) (tt := tYes) rfl sc_law_deep.nd (pi_listK (K := K) rfl (pv 0)) (blkOk_by (own := [("_law_one", 1)]) (N := ["_law_thing", "_law_one"]) (sc := defScope s_law_deep) (by decide +kernel)) (fun _ _ _ _ _ => (pg_name (i := 1) sc_law_deep.nd rfl (Or.inl rfl))) (fun _ _ _ _ _ => pts_nil) (fun _ _ _ _ _ => (pe_fn F_law_deep hr rfl (pa_cons (pv 1) pa_nil)))))) pss_nil)
      (pss_one (ps_ret (pe_ifExp (pt_val (pe_callB (cr_isiB (K := K) rfl) rfl T.n_isinstance (by decide +kernel) (pa_cons (pv 0) (pa_cons (pe_bltn (v := .ty "tuple") (u := .type "tuple") rfl T.n_tuple (by decide +kernel) rfl) pa_nil)))) pe_nev (pv 0))))), ?_⟩
    rcases hq with ⟨n, rfl, q⟩ | ⟨hd, p, ns, rfl, o, hl, q⟩ | ⟨hd, p, xs, nss, rfl, o, hx, hl, hn, q⟩
    · walk_at "go"
      exact q
    · walk_at "go"
      refine lcMap ns V.int (it_list (xs := ns.map V.int)) (by simp) (by omega) (fun H' s => inferInstance) ?_ ?_
      · rintro i x v H' H'' hi s ⟨rfl, hv⟩ Nt Nf ht
        have e : v = .int x := by
          rw [List.getElem?_map, hi] at hv
          exact (Option.some.inj hv).symm
        subst e
        walk_at "go"
        refine go_law_deep_int ?_
        exact ht _ smx
      · intro D H1 s1 f1 o1
        exact q D H1 s1 f1 o1
    · walk_at "go"
      refine lcNew nss (it_list (xs := xs)) hx.len (by have := hx.len; omega) (fun H' s => inferInstance) ?_ ?_
      · rintro i x v H' H'' hi s ⟨rfl, hv⟩ Nt Nf ht
        obtain ⟨ns, e, q', rfl, o'⟩ := hx.get hv
        have e2 : ns = x := Option.some.inj (e.symm.trans hi)
        subst e2
        have o2 : OB H'' q' (.lst (ns.map V.int)) := OB.mono (a := s) (b := o')
        walk_at "go"
        refine go_law_deep_row (by omega) (hn _ (List.mem_of_getElem? hi)) ?_
        intro q2 H4 s4 f4 o4
        exact ht q2 H4 s4 f4 o4
      · intro D ys H1 s1 f1 o1 hy nw
        exact q D ys H1 s1 f1 o1 hy nw
theorem sc_law_spoilt : FnScope ["_law_found", "_law_one"] ["_law_found"] (defScope s_law_spoilt) := ⟨rfl, rfl, rfl, by decide +kernel, rfl, by decide +kernel, by decide +kernel⟩
def sp_law_spoilt (d : Nat) : Sp := fun vs H Q _ => ∃ v S, vs = [v] ∧ Spl d H v S ∧ ∀ H', MS S H' H → Q .non H'
theorem go_law_spoilt {d : Nat} {v : V} {S : Addr → Prop} {H : Hp} {Q : VK} {E : XK} (h : Spl d H v S) (q : ∀ H', MS S H' H → Q .non H') : sp_law_spoilt d [v] H Q E := ⟨v, S, rfl, h, q⟩
theorem ok_law_spoilt_0 (T : Top K mg c) : Fn P w K mg base "_law_spoilt" ["_law_found"] 1 (sp_law_spoilt 0) := by
  have iO_Writes : OwnI K (c 1) := ⟨T.o_Writes⟩
  have iA_Writes_number : NoaI K (c 1) "number" := ⟨T.a_Writes_number⟩
  have iK_Writes_Writes : KitI K (c 1) (c 1) true := ⟨T.q_Writes.kit T.k_Writes_Writes.1 T.k_Writes_Writes.2⟩
  have iO_Breaks : OwnI K (c 2) := ⟨T.o_Breaks⟩
  have iA_Breaks_place : NoaI K (c 2) "place" := ⟨T.a_Breaks_place⟩
  have iA_Breaks_left : NoaI K (c 2) "left" := ⟨T.a_Breaks_left⟩
  have iK_Breaks_Writes : KitI K (c 2) (c 1) false := ⟨T.q_Writes.kit T.k_Breaks_Writes.1 T.k_Breaks_Writes.2⟩
  have iO_Sum : OwnI K (c 3) := ⟨T.o_Sum⟩
  have iA_Sum_row : NoaI K (c 3) "row" := ⟨T.a_Sum_row⟩
  have iA_Sum_carries : NoaI K (c 3) "carries" := ⟨T.a_Sum_carries⟩
  have iK_Sum_Writes : KitI K (c 3) (c 1) false := ⟨T.q_Writes.kit T.k_Sum_Writes.1 T.k_Sum_Writes.2⟩
  have iO_Times : OwnI K (c 4) := ⟨T.o_Times⟩
  have iA_Times_row : NoaI K (c 4) "row" := ⟨T.a_Times_row⟩
  have iA_Times_carries : NoaI K (c 4) "carries" := ⟨T.a_Times_carries⟩
  have iK_Times_Writes : KitI K (c 4) (c 1) false := ⟨T.q_Writes.kit T.k_Times_Writes.1 T.k_Times_Writes.2⟩
  refine T.f_law_spoilt.ok sc_law_spoilt (fun vs H Q E h => ?_) (fun f cdv A outer s H vs Q E hr h => ?_)
  · obtain ⟨v, S, rfl, hs, q⟩ := h
    rfl
  · obtain ⟨v, S, rfl, hs, q⟩ := h
    refine ⟨_, (pss_cons (ps_if (pt_val (pe_callB (cr_isiLT (K := K) rfl) rfl T.n_isinstance (by decide +kernel) (pa_cons (pv 0) (pa_cons (pe_tupB (pa_cons (pe_bltn (v := .ty "list") (u := .type "list") rfl T.n_list (by decide +kernel) rfl) (pa_cons (pe_bltn (v := .ty "tuple") (u := .type "tuple") rfl T.n_tuple (by decide +kernel) rfl) pa_nil))) pa_nil)))) (pss_one (ps_for PassesOwn.never rfl (pi_or (pi_listK (K := K) rfl (pv 0)) (pi_tupK (K := K) rfl (pv 0))) (pg_name (i := 1) sc_law_spoilt.nd rfl (Or.inl rfl))
      (pss_one (ps_expr pe_nev)))) pss_nil)
      (pss_one (ps_if (pt_val (pe_callB (cr_isiB (K := K) rfl) rfl T.n_isinstance (by decide +kernel) (pa_cons (pv 0) (pa_cons (pe_bltn (v := .ty "list") (u := .type "list") rfl T.n_list (by decide +kernel) rfl) pa_nil)))) (pss_one (ps_expr (pe_bm PySem.F.plainAttrs_list PySem.F.slot_list_append PySem.F.type_list_append mt_appendB (pv 0) (pa_cons (pe_tupB pa_nil) pa_nil)))) pss_nil))), ?_⟩
    rcases hs with ⟨n, rfl⟩ | ⟨b, rfl⟩
    · walk_at "go"
      exact q _ (MS.sx inferInstance)
    · walk_at "go"
      exact q _ (MS.sx inferInstance)
theorem ok_law_spoilt_1 (T : Top K mg c) : Fn P w K mg base "_law_spoilt" ["_law_found"] 2 (sp_law_spoilt 1) := by
  have F_law_spoilt := ok_law_spoilt_0 (P := P) (w := w) (base := base) T
  have iO_Writes : OwnI K (c 1) := ⟨T.o_Writes⟩
  have iA_Writes_number : NoaI K (c 1) "number" := ⟨T.a_Writes_number⟩
  have iK_Writes_Writes : KitI K (c 1) (c 1) true := ⟨T.q_Writes.kit T.k_Writes_Writes.1 T.k_Writes_Writes.2⟩
  have iO_Breaks : OwnI K (c 2) := ⟨T.o_Breaks⟩
  have iA_Breaks_place : NoaI K (c 2) "place" := ⟨T.a_Breaks_place⟩
  have iA_Breaks_left : NoaI K (c 2) "left" := ⟨T.a_Breaks_left⟩
  have iK_Breaks_Writes : KitI K (c 2) (c 1) false := ⟨T.q_Writes.kit T.k_Breaks_Writes.1 T.k_Breaks_Writes.2⟩
  have iO_Sum : OwnI K (c 3) := ⟨T.o_Sum⟩
  have iA_Sum_row : NoaI K (c 3) "row" := ⟨T.a_Sum_row⟩
  have iA_Sum_carries : NoaI K (c 3) "carries" := ⟨T.a_Sum_carries⟩
  have iK_Sum_Writes : KitI K (c 3) (c 1) false := ⟨T.q_Writes.kit T.k_Sum_Writes.1 T.k_Sum_Writes.2⟩
  have iO_Times : OwnI K (c 4) := ⟨T.o_Times⟩
  have iA_Times_row : NoaI K (c 4) "row" := ⟨T.a_Times_row⟩
  have iA_Times_carries : NoaI K (c 4) "carries" := ⟨T.a_Times_carries⟩
  have iK_Times_Writes : KitI K (c 4) (c 1) false := ⟨T.q_Writes.kit T.k_Times_Writes.1 T.k_Times_Writes.2⟩
  refine T.f_law_spoilt.ok sc_law_spoilt (fun vs H Q E h => ?_) (fun f cdv A outer s H vs Q E hr h => ?_)
  · obtain ⟨v, S, rfl, hs, q⟩ := h
    rfl
  · obtain ⟨v, S, rfl, hs, q⟩ := h
    refine ⟨_, (pss_cons (ps_if (pt_val (pe_callB (cr_isiLT (K := K) rfl) rfl T.n_isinstance (by decide +kernel) (pa_cons (pv 0) (pa_cons (pe_tupB (pa_cons (pe_bltn (v := .ty "list") (u := .type "list") rfl T.n_list (by decide +kernel) rfl) (pa_cons (pe_bltn (v := .ty "tuple") (u := .type "tuple") rfl T.n_tuple (by decide +kernel) rfl) pa_nil))) pa_nil)))) (pss_one (ps_for PassesOwn.never rfl (pi_or (pi_listK (K := K) rfl (pv 0)) (pi_tupK (K := K) rfl (pv 0))) (pg_name (i := 1) sc_law_spoilt.nd rfl (Or.inl rfl))
      (pss_one (ps_expr (pe_fn F_law_spoilt hr rfl (pa_cons (pv 1) pa_nil)))))) pss_nil)
      (pss_one (ps_if (pt_val (pe_callB (cr_isiB (K := K) rfl) rfl T.n_isinstance (by decide +kernel) (pa_cons (pv 0) (pa_cons (pe_bltn (v := .ty "list") (u := .type "list") rfl T.n_list (by decide +kernel) rfl) pa_nil)))) (pss_one (ps_expr (pe_bm PySem.F.plainAttrs_list PySem.F.slot_list_append PySem.F.type_list_append mt_appendB (pv 0) (pa_cons (pe_tupB pa_nil) pa_nil)))) pss_nil))), ?_⟩
    rcases hs with (⟨n, rfl⟩ | ⟨b, rfl⟩) | ⟨p, xs, rfl, o | o, hl, hp, Sf, h1, h2, h3⟩
    · walk_at "go"
      exact q _ (MS.sx inferInstance)
    · walk_at "go"
      exact q _ (MS.sx inferInstance)
    · walk_at "go"
      rename_i tp H1 s1 f1 o1
      refine .inr ?_
      walk_at "go"
      refine forM (it_tup (xs := xs)) (fun i σ H' => ∃ v1, σ = [some (.ref p), v1] ∧ MS (fun b => ∃ j, j < i ∧ Sf j b) H' H1) ⟨_, rfl, MS.refl _⟩ (fun i σ H' h => ?_) ?_ ?_
      · obtain ⟨_, rfl, m⟩ := h
        exact m.ob (b := inferInstance) (fun ⟨j, _, z⟩ => (h1 j p z).2 rfl)
      · rintro i v σ H2 H2x hi ⟨v1, rfl, m⟩ ⟨rfl, hv⟩
        walk_at "go"
        refine go_law_spoilt (S := Sf i) ?_ fun H3 m3 => ?_
        · have z1 : Spl 0 H1 v (Sf i) := Spl.sx inferInstance (h3 i v hv)
          exact z1.ms m (fun b hb ⟨j, hj, hb2⟩ => by have := h2 _ _ _ hb hb2; omega)
        walk_at "go"
        exact ⟨_, rfl, (m3.wk fun b hb => ⟨i, by omega, hb⟩).trans (m.wk fun b ⟨j, hj, hb⟩ => ⟨j, by omega, hb⟩)⟩
      · rintro σ H2 ⟨v1, rfl, m⟩
        have op : OB H2 p (.tup xs) := m.ob (b := inferInstance) (fun ⟨j, _, z⟩ => (h1 j p z).2 rfl)
        have m2 : MS S H2 H := (m.wk fun b ⟨j, _, z⟩ => (h1 j b z).1).trans (MS.sx inferInstance)
        walk_at "go"
        exact q _ m2
    · walk_at "go"
      rename_i tp H1 s1 f1 o1
      refine .inl ?_
      walk_at "go"
      refine forM (it_list (xs := xs)) (fun i σ H' => ∃ v1, σ = [some (.ref p), v1] ∧ MS (fun b => ∃ j, j < i ∧ Sf j b) H' H1) ⟨_, rfl, MS.refl _⟩ (fun i σ H' h => ?_) ?_ ?_
      · obtain ⟨_, rfl, m⟩ := h
        exact m.ob (b := inferInstance) (fun ⟨j, _, z⟩ => (h1 j p z).2 rfl)
      · rintro i v σ H2 H2x hi ⟨v1, rfl, m⟩ ⟨rfl, hv⟩
        walk_at "go"
        refine go_law_spoilt (S := Sf i) ?_ fun H3 m3 => ?_
        · have z1 : Spl 0 H1 v (Sf i) := Spl.sx inferInstance (h3 i v hv)
          exact z1.ms m (fun b hb ⟨j, hj, hb2⟩ => by have := h2 _ _ _ hb hb2; omega)
        walk_at "go"
        exact ⟨_, rfl, (m3.wk fun b hb => ⟨i, by omega, hb⟩).trans (m.wk fun b ⟨j, hj, hb⟩ => ⟨j, by omega, hb⟩)⟩
      · rintro σ H2 ⟨v1, rfl, m⟩
        have op : OB H2 p (.lst xs) := m.ob (b := inferInstance) (fun ⟨j, _, z⟩ => (h1 j p z).2 rfl)
        have m2 : MS S H2 H := (m.wk fun b ⟨j, _, z⟩ => (h1 j b z).1).trans (MS.sx inferInstance)
        walk_at "go"
        rename_i t3 H3 s3 f3 o3 H4 m4 o4
        exact q _ ((MS.mu m4 hp).trans ((MS.sx inferInstance : MS S H3 H2).trans m2))
theorem ok_law_spoilt (T : Top K mg c) : Fn P w K mg base "_law_spoilt" ["_law_found"] 3 (sp_law_spoilt 2) := by
  have F_law_spoilt := ok_law_spoilt_1 (P := P) (w := w) (base := base) T
  have iO_Writes : OwnI K (c 1) := ⟨T.o_Writes⟩
  have iA_Writes_number : NoaI K (c 1) "number" := ⟨T.a_Writes_number⟩
  have iK_Writes_Writes : KitI K (c 1) (c 1) true := ⟨T.q_Writes.kit T.k_Writes_Writes.1 T.k_Writes_Writes.2⟩
  have iO_Breaks : OwnI K (c 2) := ⟨T.o_Breaks⟩
  have iA_Breaks_place : NoaI K (c 2) "place" := ⟨T.a_Breaks_place⟩
  have iA_Breaks_left : NoaI K (c 2) "left" := ⟨T.a_Breaks_left⟩
  have iK_Breaks_Writes : KitI K (c 2) (c 1) false := ⟨T.q_Writes.kit T.k_Breaks_Writes.1 T.k_Breaks_Writes.2⟩
  have iO_Sum : OwnI K (c 3) := ⟨T.o_Sum⟩
  have iA_Sum_row : NoaI K (c 3) "row" := ⟨T.a_Sum_row⟩
  have iA_Sum_carries : NoaI K (c 3) "carries" := ⟨T.a_Sum_carries⟩
  have iK_Sum_Writes : KitI K (c 3) (c 1) false := ⟨T.q_Writes.kit T.k_Sum_Writes.1 T.k_Sum_Writes.2⟩
  have iO_Times : OwnI K (c 4) := ⟨T.o_Times⟩
  have iA_Times_row : NoaI K (c 4) "row" := ⟨T.a_Times_row⟩
  have iA_Times_carries : NoaI K (c 4) "carries" := ⟨T.a_Times_carries⟩
  have iK_Times_Writes : KitI K (c 4) (c 1) false := ⟨T.q_Writes.kit T.k_Times_Writes.1 T.k_Times_Writes.2⟩
  refine T.f_law_spoilt.ok sc_law_spoilt (fun vs H Q E h => ?_) (fun f cdv A outer s H vs Q E hr h => ?_)
  · obtain ⟨v, S, rfl, hs, q⟩ := h
    rfl
  · obtain ⟨v, S, rfl, hs, q⟩ := h
    refine ⟨_, (pss_cons (ps_if (pt_val (pe_callB (cr_isiLT (K := K) rfl) rfl T.n_isinstance (by decide +kernel) (pa_cons (pv 0) (pa_cons (pe_tupB (pa_cons (pe_bltn (v := .ty "list") (u := .type "list") rfl T.n_list (by decide +kernel) rfl) (pa_cons (pe_bltn (v := .ty "tuple") (u := .type "tuple") rfl T.n_tuple (by decide +kernel) rfl) pa_nil))) pa_nil)))) (pss_one (ps_for PassesOwn.never rfl (pi_or (pi_listK (K := K) rfl (pv 0)) (pi_tupK (K := K) rfl (pv 0))) (pg_name (i := 1) sc_law_spoilt.nd rfl (Or.inl rfl))
      (pss_one (ps_expr (pe_fn F_law_spoilt hr rfl (pa_cons (pv 1) pa_nil)))))) pss_nil)
      (pss_one (ps_if (pt_val (pe_callB (cr_isiB (K := K) rfl) rfl T.n_isinstance (by decide +kernel) (pa_cons (pv 0) (pa_cons (pe_bltn (v := .ty "list") (u := .type "list") rfl T.n_list (by decide +kernel) rfl) pa_nil)))) (pss_one (ps_expr (pe_bm PySem.F.plainAttrs_list PySem.F.slot_list_append PySem.F.type_list_append mt_appendB (pv 0) (pa_cons (pe_tupB pa_nil) pa_nil)))) pss_nil))), ?_⟩
    rcases hs with (⟨n, rfl⟩ | ⟨b, rfl⟩) | ⟨p, xs, rfl, o | o, hl, hp, Sf, h1, h2, h3⟩
    · walk_at "go"
      exact q _ (MS.sx inferInstance)
    · walk_at "go"
      exact q _ (MS.sx inferInstance)
    · walk_at "go"
      rename_i tp H1 s1 f1 o1
      refine .inr ?_
      walk_at "go"
      refine forM (it_tup (xs := xs)) (fun i σ H' => ∃ v1, σ = [some (.ref p), v1] ∧ MS (fun b => ∃ j, j < i ∧ Sf j b) H' H1) ⟨_, rfl, MS.refl _⟩ (fun i σ H' h => ?_) ?_ ?_
      · obtain ⟨_, rfl, m⟩ := h
        exact m.ob (b := inferInstance) (fun ⟨j, _, z⟩ => (h1 j p z).2 rfl)
      · rintro i v σ H2 H2x hi ⟨v1, rfl, m⟩ ⟨rfl, hv⟩
        walk_at "go"
        refine go_law_spoilt (S := Sf i) ?_ fun H3 m3 => ?_
        · have z1 : Spl 1 H1 v (Sf i) := Spl.sx inferInstance (h3 i v hv)
          exact z1.ms m (fun b hb ⟨j, hj, hb2⟩ => by have := h2 _ _ _ hb hb2; omega)
        walk_at "go"
        exact ⟨_, rfl, (m3.wk fun b hb => ⟨i, by omega, hb⟩).trans (m.wk fun b ⟨j, hj, hb⟩ => ⟨j, by omega, hb⟩)⟩
      · rintro σ H2 ⟨v1, rfl, m⟩
        have op : OB H2 p (.tup xs) := m.ob (b := inferInstance) (fun ⟨j, _, z⟩ => (h1 j p z).2 rfl)
        have m2 : MS S H2 H := (m.wk fun b ⟨j, _, z⟩ => (h1 j b z).1).trans (MS.sx inferInstance)
        walk_at "go"
        exact q _ m2
    · walk_at "go"
      rename_i tp H1 s1 f1 o1
      refine .inl ?_
      walk_at "go"
      refine forM (it_list (xs := xs)) (fun i σ H' => ∃ v1, σ = [some (.ref p), v1] ∧ MS (fun b => ∃ j, j < i ∧ Sf j b) H' H1) ⟨_, rfl, MS.refl _⟩ (fun i σ H' h => ?_) ?_ ?_
      · obtain ⟨_, rfl, m⟩ := h
        exact m.ob (b := inferInstance) (fun ⟨j, _, z⟩ => (h1 j p z).2 rfl)
      · rintro i v σ H2 H2x hi ⟨v1, rfl, m⟩ ⟨rfl, hv⟩
        walk_at "go"
        refine go_law_spoilt (S := Sf i) ?_ fun H3 m3 => ?_
        · have z1 : Spl 1 H1 v (Sf i) := Spl.sx inferInstance (h3 i v hv)
          exact z1.ms m (fun b hb ⟨j, hj, hb2⟩ => by have := h2 _ _ _ hb hb2; omega)
        walk_at "go"
        exact ⟨_, rfl, (m3.wk fun b hb => ⟨i, by omega, hb⟩).trans (m.wk fun b ⟨j, hj, hb⟩ => ⟨j, by omega, hb⟩)⟩
      · rintro σ H2 ⟨v1, rfl, m⟩
        have op : OB H2 p (.lst xs) := m.ob (b := inferInstance) (fun ⟨j, _, z⟩ => (h1 j p z).2 rfl)
        have m2 : MS S H2 H := (m.wk fun b ⟨j, _, z⟩ => (h1 j b z).1).trans (MS.sx inferInstance)
        walk_at "go"
        rename_i t3 H3 s3 f3 o3 H4 m4 o4
        exact q _ ((MS.mu m4 hp).trans ((MS.sx inferInstance : MS S H3 H2).trans m2))
theorem sc_law_put : FnScope ["_law_handed", "_law_some", "_law_row", "_law_other"] ["_law_handed", "_law_some"] (defScope s_law_put) := ⟨rfl, rfl, rfl, by decide +kernel, rfl, by decide +kernel, by decide +kernel⟩
def sp_law_put : Sp := fun vs H Q _ => ∃ (h p : Addr) (ys xs : List V) (nss mss : List (List Int)), vs = [.ref h, .ref p] ∧ OB H h (.lst ys) ∧ Fa (LI H) ys nss ∧ OB H p (.lst xs) ∧ Fa (LI H) xs mss ∧ ys.length = xs.length ∧ (∀ ms ∈ mss, ms.length ≤ 2000) ∧ ys.Nodup ∧ V.ref h ∉ ys ∧ V.ref p ∉ ys ∧ (∀ x ∈ xs, x ∉ ys) ∧ ∀ H', MS (fun b => V.ref b ∈ ys) H' H → Fa (LI H') ys mss → Q .non H'
theorem go_law_put {h p : Addr} {ys xs : List V} {nss mss : List (List Int)} {H : Hp} {Q : VK} {E : XK} [o : OB H h (.lst ys)] [o2 : OB H p (.lst xs)] (f1 : Fa (LI H) ys nss) (f2 : Fa (LI H) xs mss) (hl : ys.length = xs.length) (hm : ∀ ms ∈ mss, ms.length ≤ 2000) (n1 : ys.Nodup) (n2 : V.ref h ∉ ys) (n3 : V.ref p ∉ ys) (n4 : ∀ x ∈ xs, x ∉ ys) (q : ∀ H', MS (fun b => V.ref b ∈ ys) H' H → Fa (LI H') ys mss → Q .non H') : sp_law_put [.ref h, .ref p] H Q E := ⟨h, p, ys, xs, nss, mss, rfl, o, f1, o2, f2, hl, hm, n1, n2, n3, n4, q⟩
theorem ok_law_put (T : Top K mg c) : Fn P w K mg base "_law_put" ["_law_handed", "_law_some"] 4 sp_law_put := by
  have F_law_deep := ok_law_deep (P := P) (w := w) (base := base) T
  have iO_Writes : OwnI K (c 1) := ⟨T.o_Writes⟩
  have iA_Writes_number : NoaI K (c 1) "number" := ⟨T.a_Writes_number⟩
  have iK_Writes_Writes : KitI K (c 1) (c 1) true := ⟨T.q_Writes.kit T.k_Writes_Writes.1 T.k_Writes_Writes.2⟩
  have iO_Breaks : OwnI K (c 2) := ⟨T.o_Breaks⟩
  have iA_Breaks_place : NoaI K (c 2) "place" := ⟨T.a_Breaks_place⟩
  have iA_Breaks_left : NoaI K (c 2) "left" := ⟨T.a_Breaks_left⟩
  have iK_Breaks_Writes : KitI K (c 2) (c 1) false := ⟨T.q_Writes.kit T.k_Breaks_Writes.1 T.k_Breaks_Writes.2⟩
  have iO_Sum : OwnI K (c 3) := ⟨T.o_Sum⟩
  have iA_Sum_row : NoaI K (c 3) "row" := ⟨T.a_Sum_row⟩
  have iA_Sum_carries : NoaI K (c 3) "carries" := ⟨T.a_Sum_carries⟩
  have iK_Sum_Writes : KitI K (c 3) (c 1) false := ⟨T.q_Writes.kit T.k_Sum_Writes.1 T.k_Sum_Writes.2⟩
  have iO_Times : OwnI K (c 4) := ⟨T.o_Times⟩
  have iA_Times_row : NoaI K (c 4) "row" := ⟨T.a_Times_row⟩
  have iA_Times_carries : NoaI K (c 4) "carries" := ⟨T.a_Times_carries⟩
  have iK_Times_Writes : KitI K (c 4) (c 1) false := ⟨T.q_Writes.kit T.k_Times_Writes.1 T.k_Times_Writes.2⟩
  refine T.f_law_put.ok sc_law_put (fun vs H Q E h => ?_) (fun f cdv A outer s H vs Q E hr h => ?_)
  · obtain ⟨h, p, ys, xs, nss, mss, rfl, o, f1, o2, f2, hl, hm, n1, n2, n3, n4, q⟩ := h
    rfl
  · obtain ⟨h, p, ys, xs, nss, mss, rfl, o, f1, o2, f2, hl, hm, n1, n2, n3, n4, q⟩ := h
    refine ⟨_, (pss_one (ps_for PassesOwn.never rfl (pi_zip rfl T.n_zip (pa_cons (pv 0) (pa_cons (pv 1) pa_nil))) (pg_tupB (n := 2) rfl (pgs_cons (pg_name (i := 2) sc_law_put.nd rfl (Or.inl rfl)) (pgs_cons (pg_name (i := 3) sc_law_put.nd rfl (Or.inl rfl)) pgs_nil)))
      (pss_cons (ps_while PassesOwn.never (pt_cmpR (op_neB (K := K) rfl hr.units) (pv 2) (pe_lstB pa_nil) (nomark _)) (pss_one (ps_expr (pe_bm0 PySem.F.plainAttrs_list PySem.F.slot_list_pop PySem.F.type_list_pop mt_popB (pv 2)))))
      (pss_one (ps_expr (pe_bm PySem.F.plainAttrs_list PySem.F.slot_list_extend PySem.F.type_list_extend mt_extendB (pv 2) (pa_cons (pe_fn F_law_deep hr rfl (pa_cons (pv 3) pa_nil)) pa_nil))))))), ?_⟩
    have l1 := f1.len
    have l2 := f2.len
    walk_at "go"
    refine forM (it_zip (xs := ys) (ys := xs)) (fun i σ H' => ∃ v2 v3, σ = [some (.ref h), some (.ref p), v2, v3] ∧ MS (fun b => V.ref b ∈ ys) H' H ∧ (∀ j y ms, j < i → ys[j]? = some y → mss[j]? = some ms → LI H' y ms) ∧ (∀ j y, i ≤ j → ys[j]? = some y → ∃ ns, LI H' y ns)) ⟨_, _, rfl, MS.refl _, fun j y ms hj => by omega, fun j y _ hy => (f1.get hy).elim fun ns hns => ⟨ns, hns.2⟩⟩ (fun i σ H' hh => ?_) ?_ ?_
    · obtain ⟨_, _, rfl, m, _⟩ := hh
      exact ⟨m.ob n2, m.ob n3⟩
    · rintro i v σ H1 H1x hi ⟨v2, v3, rfl, m, a1, a2⟩ ⟨T, x, y, rfl, hx, hy, sT, fT, oT⟩
      obtain ⟨ns, r, rfl, or1⟩ := a2 i x (Nat.le_refl i) hx
      obtain ⟨ms, hms, r2, rfl, or2⟩ := f2.get hy
      have nr2 : V.ref r2 ∉ ys := n4 _ (List.mem_of_getElem? hy)
      have or2' : OB H1 r2 (.lst (ms.map V.int)) := m.ob (b := or2) nr2
      have or3 : OB H1x r (.lst (ns.map V.int)) := inferInstance
      have nrr : NE r2 r := ⟨fun e => nr2 (by rw [e]; exact List.mem_of_getElem? hx)⟩
      have hml : ms.length ≤ 2000 := hm _ (List.mem_of_getElem? hms)
      walk_at "go"
      refine whM (fun k σ H' => ∃ ks : List Int, σ = [some (.ref h), some (.ref p), some (.ref r), some (.ref r2)] ∧ MS (fun b => b = r) H' H1x ∧ OB H' r (.lst (ks.map V.int)) ∧ k = ks.length) ⟨_, ns, rfl, MS.refl _, or3, rfl⟩ ?_
      rintro k σ H2 ⟨ks, rfl, m2, ok, rfl⟩
      walk_at "go"
      rename_i pe He se fe oe
      refine rd_nD (fun hz => ?_) (fun hz => ?_)
      · subst hz
        have or4 : OB H2 r2 (.lst (ms.map V.int)) := m2.ob (b := inferInstance) (fun e => nrr.h e)
        have ok0 : OB He r (.lst (([] : List Int).map V.int)) := inferInstance
        walk_at "go"
        refine go_law_deep_row (by omega) hml ?_
        intro q3 H3 s3 f3 o3
        walk_at "go"
        rename_i H4 m4 o4
        have x12 : SX H1x H1 := inferInstance
        have x32 : SX H3 H2 := inferInstance
        have hr : V.ref r ∈ ys := List.mem_of_getElem? hx
        have mm : MS (fun b => b = r) H4 H1 := (MS.mu m4 rfl : MS (fun b => b = r) H4 H3).trans ((MS.sx x32).trans (m2.trans (MS.sx x12)))
        have keep : ∀ (y : V) (zs : List Int), y ≠ V.ref r → LI H1 y zs → LI H4 y zs := fun y zs ny ⟨q, e, oq⟩ => ⟨q, e, mm.ob (b := oq) (fun z => ny (by rw [e, z]))⟩
        refine ⟨_, _, rfl, (mm.wk fun b e => by rw [e]; exact hr).trans m, fun j y ms2 hj hy2 hms2 => ?_, fun j y hj hy2 => ?_⟩
        · by_cases e : j = i
          · subst e
            rw [hx] at hy2
            rw [hms] at hms2
            cases hy2
            cases hms2
            exact ⟨r, rfl, by simpa using o4⟩
          · refine keep y ms2 (fun z => e ?_) (a1 j y ms2 (by omega) hy2 hms2)
            rw [z] at hy2
            exact nodup_at n1 hy2 hx
        · obtain ⟨zs, hzs⟩ := a2 j y (by omega) hy2
          refine ⟨zs, keep y zs (fun z => ?_) hzs⟩
          rw [z] at hy2
          have := nodup_at n1 hy2 hx
          omega
      · have hk : 0 < ks.length := by
          cases ks with
          | nil => exact absurd rfl hz
          | cons _ _ => simp
        refine ⟨_, fun _ _ h => h, ?_⟩
        walk_at "go"
        refine rd_popI hk fun vv H3 m3 o3 => ?_
        walk_at "go"
        have x2 : SX He H2 := inferInstance
        exact ⟨_, by rw [List.length_dropLast]; omega, ks.dropLast, rfl, (MS.mu m3 rfl : MS (fun b => b = r) H3 He).trans ((MS.sx x2).trans m2), o3, rfl⟩
    · rintro σ H1 ⟨v2, v3, rfl, m, a1, a2⟩
      walk_at "go"
      refine q _ m (fa_of (by omega) fun j y ms hy hms => a1 j y ms ?_ hy hms)
      have := (List.getElem?_eq_some_iff.mp hy).1
      omega
theorem sc_law_two : FnScope ["_law_found"] ["_law_found"] (defScope s_law_two) := ⟨rfl, rfl, rfl, by decide +kernel, rfl, by decide +kernel, by decide +kernel⟩
def sp_law_two : Sp := fun vs H Q _ => ∃ v, vs = [v] ∧ kNew Q (.tup [v, v]) H
theorem go_law_two {v : V} {H : Hp} {Q : VK} {E : XK} (q : kNew Q (.tup [v, v]) H) : sp_law_two [v] H Q E := ⟨v, rfl, q⟩
theorem ok_law_two (T : Top K mg c) : Fn P w K mg base "_law_two" ["_law_found"] 1 sp_law_two := by
  have iO_Writes : OwnI K (c 1) := ⟨T.o_Writes⟩
  have iA_Writes_number : NoaI K (c 1) "number" := ⟨T.a_Writes_number⟩
  have iK_Writes_Writes : KitI K (c 1) (c 1) true := ⟨T.q_Writes.kit T.k_Writes_Writes.1 T.k_Writes_Writes.2⟩
  have iO_Breaks : OwnI K (c 2) := ⟨T.o_Breaks⟩
  have iA_Breaks_place : NoaI K (c 2) "place" := ⟨T.a_Breaks_place⟩
  have iA_Breaks_left : NoaI K (c 2) "left" := ⟨T.a_Breaks_left⟩
  have iK_Breaks_Writes : KitI K (c 2) (c 1) false := ⟨T.q_Writes.kit T.k_Breaks_Writes.1 T.k_Breaks_Writes.2⟩
  have iO_Sum : OwnI K (c 3) := ⟨T.o_Sum⟩
  have iA_Sum_row : NoaI K (c 3) "row" := ⟨T.a_Sum_row⟩
  have iA_Sum_carries : NoaI K (c 3) "carries" := ⟨T.a_Sum_carries⟩
  have iK_Sum_Writes : KitI K (c 3) (c 1) false := ⟨T.q_Writes.kit T.k_Sum_Writes.1 T.k_Sum_Writes.2⟩
  have iO_Times : OwnI K (c 4) := ⟨T.o_Times⟩
  have iA_Times_row : NoaI K (c 4) "row" := ⟨T.a_Times_row⟩
  have iA_Times_carries : NoaI K (c 4) "carries" := ⟨T.a_Times_carries⟩
  have iK_Times_Writes : KitI K (c 4) (c 1) false := ⟨T.q_Writes.kit T.k_Times_Writes.1 T.k_Times_Writes.2⟩
  refine T.f_law_two.ok sc_law_two (fun vs H Q E h => ?_) (fun f cdv A outer s H vs Q E hr h => ?_)
  · obtain ⟨v, rfl, q⟩ := h
    rfl
  · obtain ⟨v, rfl, q⟩ := h
    refine ⟨_, (pss_one (ps_ret (pe_tupB (pa_cons (pv 0) (pa_cons (pv 0) pa_nil))))), ?_⟩
    walk_at "go"
    exact kret q
theorem sc_law_judged : FnScope ["_law_row", "_law_found"] ["_law_row"] (defScope s_law_judged) := ⟨rfl, rfl, rfl, by decide +kernel, rfl, by decide +kernel, by decide +kernel⟩
def sp_law_judged (K : PySem.W.Frag) : Sp := fun vs H Q _ => ∃ (p : Addr) (n : Int), vs = [.ref p] ∧ OB H p (.lst ((row 3 2 n).map V.int)) ∧ 0 ≤ n ∧ n ≤ 90 ∧ Told K Q (.list [.bool true, .bool true]) H
theorem go_law_judged {K : PySem.W.Frag} {p : Addr} {n : Int} {H : Hp} {Q : VK} {E : XK} (o : OB H p (.lst ((row 3 2 n).map V.int))) (h0 : 0 ≤ n) (h1 : n ≤ 90) (q : Told K Q (.list [.bool true, .bool true]) H) : sp_law_judged K [.ref p] H Q E := ⟨p, n, rfl, o, h0, h1, q⟩
theorem ok_law_judged (T : Top K mg c) : Fn P w K mg base "_law_judged" ["_law_row"] 5 (sp_law_judged K) := by
  have F_judged := ok_judged (P := P) (w := w) (base := base) T
  obtain ⟨_, _, G_Writes, b_Writes, Mm_Writes⟩ := (okm_Writes (P := P) (w := w) (base := base) T).ex
  obtain ⟨_, _, G_Breaks, b_Breaks, Mm_Breaks⟩ := (okm_Breaks (P := P) (w := w) (base := base) T).ex
  obtain ⟨_, _, G_Sum, b_Sum, Mm_Sum⟩ := (okm_Sum (P := P) (w := w) (base := base) T).ex
  obtain ⟨_, _, G_Times, b_Times, Mm_Times⟩ := (okm_Times (P := P) (w := w) (base := base) T).ex
  have iO_Writes : OwnI K (c 1) := ⟨T.o_Writes⟩
  have iA_Writes_number : NoaI K (c 1) "number" := ⟨T.a_Writes_number⟩
  have iK_Writes_Writes : KitI K (c 1) (c 1) true := ⟨T.q_Writes.kit T.k_Writes_Writes.1 T.k_Writes_Writes.2⟩
  have iO_Breaks : OwnI K (c 2) := ⟨T.o_Breaks⟩
  have iA_Breaks_place : NoaI K (c 2) "place" := ⟨T.a_Breaks_place⟩
  have iA_Breaks_left : NoaI K (c 2) "left" := ⟨T.a_Breaks_left⟩
  have iK_Breaks_Writes : KitI K (c 2) (c 1) false := ⟨T.q_Writes.kit T.k_Breaks_Writes.1 T.k_Breaks_Writes.2⟩
  have iO_Sum : OwnI K (c 3) := ⟨T.o_Sum⟩
  have iA_Sum_row : NoaI K (c 3) "row" := ⟨T.a_Sum_row⟩
  have iA_Sum_carries : NoaI K (c 3) "carries" := ⟨T.a_Sum_carries⟩
  have iK_Sum_Writes : KitI K (c 3) (c 1) false := ⟨T.q_Writes.kit T.k_Sum_Writes.1 T.k_Sum_Writes.2⟩
  have iO_Times : OwnI K (c 4) := ⟨T.o_Times⟩
  have iA_Times_row : NoaI K (c 4) "row" := ⟨T.a_Times_row⟩
  have iA_Times_carries : NoaI K (c 4) "carries" := ⟨T.a_Times_carries⟩
  have iK_Times_Writes : KitI K (c 4) (c 1) false := ⟨T.q_Writes.kit T.k_Times_Writes.1 T.k_Times_Writes.2⟩
  refine T.f_law_judged.ok sc_law_judged (fun vs H Q E h => ?_) (fun f cdv A outer s H vs Q E hr h => ?_)
  · obtain ⟨p, n, rfl, o, h0, h1, q⟩ := h
    rfl
  · obtain ⟨p, n, rfl, o, h0, h1, q⟩ := h
    refine ⟨_, (pss_cons (ps_set (i := 1) sc_law_judged.nd rfl (Or.inl rfl) (pe_fn F_judged hr rfl (pa_cons (pe_tupB (pa_cons pe_int (pa_cons pe_int pa_nil))) (pa_cons (pv 0) pa_nil))))
      (pss_one (ps_ret (pe_tupB (pa_cons (pe_lstB (pa_cons (pe_callB (cr_isiB (K := K) rfl) rfl T.n_isinstance (by decide +kernel) (pa_cons (pv 1) (pa_cons (pe_glob (v := .ref (c 1)) rfl T.m_Writes rfl) pa_nil))) (pa_cons (mt_of2 (mt_of (pe_meth (pe_up (pv 1)) T.o_Writes.cl Mm_Writes G_Writes (hr.mono (by decide)) b_Writes .nil pass0 (pa_cons (pe_tupB (pa_cons pe_int (pa_cons pe_int pa_nil))) (pa_cons (pe_callTy cr_listB rfl T.n_list (by decide +kernel) (pa_cons (pv 0) pa_nil)) pa_nil)))) (mt_of (pe_meth (pe_up (pv 1)) T.o_Breaks.cl Mm_Breaks G_Breaks (hr.mono (by decide)) b_Breaks .nil pass0 (pa_cons (pe_tupB (pa_cons pe_int (pa_cons pe_int pa_nil))) (pa_cons (pe_callTy cr_listB rfl T.n_list (by decide +kernel) (pa_cons (pv 0) pa_nil)) pa_nil))))) pa_nil))) (pa_cons (pe_lstB pa_nil) pa_nil)))))), ?_⟩
    have rl := (low_row h0 h1).1
    have rf := row_fig gB.b1 gB.ba n h0
    have rff := figs_of rf
    have rr := rdo_row gB.b1 gB.ba n h0
    walk_at "go"
    refine go_judged gB rff (by omega) (fun n' hn' dx => ?_) (fun hno => by rw [rr] at hno; cases hno)
    have e : n' = n := by rw [rr] at hn'; exact (Option.some.inj hn').symm
    subst e
    intro pj H2 s2 f2 o2
    walk_at "go"
    refine go_Writes_shows (by decide) (by decide) (by decide) (by decide) (by omega) (fun x hx => by have := rf x hx; omega) fun H3 s3 => ?_
    rw [readF_ok _ 0 n' 0 rr, decide_eq_true ⟨rfl, rfl⟩]
    walk_at "go"
    rename_i p4 H4 s4 f4 o4 p5 H5 s5 f5 o5 p6 H6 s6 f6 o6
    have o4' : OB H6 p4 (.lst [.bl true, .bl true]) := inferInstance
    exact q p6 _ _ (fun b => b = p5) H6 smx o6 (show_lst o4' (.cons (.bl true) (.cons (.bl true) .nil)) (by simp) (by simp [leaf_bool])) (Spl.atoms (xs := []) inferInstance (by simp) (by simp)) (fun b e => by rw [e]; exact (frx (M := H4) : FR0 H p5).h)
theorem sc_law_times : FnScope ["_law_row", "_law_factor", "_law_found"] ["_law_row", "_law_factor"] (defScope s_law_times) := ⟨rfl, rfl, rfl, by decide +kernel, rfl, by decide +kernel, by decide +kernel⟩
def sp_law_times (K : PySem.W.Frag) : Sp := fun vs H Q _ => ∃ (p : Addr) (n f : Int), vs = [.ref p, .int f] ∧ OB H p (.lst ((row 3 2 n).map V.int)) ∧ 0 ≤ n ∧ n ≤ 90 ∧ 0 ≤ f ∧ f ≤ 30 ∧ Told K Q (.list [.str (PyData.shown (dI (row 3 2 (f * n)))), .bool true]) H
theorem go_law_times {K : PySem.W.Frag} {p : Addr} {n f : Int} {H : Hp} {Q : VK} {E : XK} (o : OB H p (.lst ((row 3 2 n).map V.int))) (h0 : 0 ≤ n) (h1 : n ≤ 90) (f0 : 0 ≤ f) (f1 : f ≤ 30) (q : Told K Q (.list [.str (PyData.shown (dI (row 3 2 (f * n)))), .bool true]) H) : sp_law_times K [.ref p, .int f] H Q E := ⟨p, n, f, rfl, o, h0, h1, f0, f1, q⟩
theorem ok_law_times (T : Top K mg c) : FnG P w K mg base "_law_times" ["_law_row", "_law_factor"] 6 (sp_law_times K) := by
  have F_times := ok_times (P := P) (w := w) (base := base) T
  obtain ⟨_, _, G_Writes, b_Writes, Mm_Writes⟩ := (okm_Writes (P := P) (w := w) (base := base) T).ex
  obtain ⟨_, _, G_Breaks, b_Breaks, Mm_Breaks⟩ := (okm_Breaks (P := P) (w := w) (base := base) T).ex
  obtain ⟨_, _, G_Sum, b_Sum, Mm_Sum⟩ := (okm_Sum (P := P) (w := w) (base := base) T).ex
  obtain ⟨_, _, G_Times, b_Times, Mm_Times⟩ := (okm_Times (P := P) (w := w) (base := base) T).ex
  have iO_Writes : OwnI K (c 1) := ⟨T.o_Writes⟩
  have iA_Writes_number : NoaI K (c 1) "number" := ⟨T.a_Writes_number⟩
  have iK_Writes_Writes : KitI K (c 1) (c 1) true := ⟨T.q_Writes.kit T.k_Writes_Writes.1 T.k_Writes_Writes.2⟩
  have iO_Breaks : OwnI K (c 2) := ⟨T.o_Breaks⟩
  have iA_Breaks_place : NoaI K (c 2) "place" := ⟨T.a_Breaks_place⟩
  have iA_Breaks_left : NoaI K (c 2) "left" := ⟨T.a_Breaks_left⟩
  have iK_Breaks_Writes : KitI K (c 2) (c 1) false := ⟨T.q_Writes.kit T.k_Breaks_Writes.1 T.k_Breaks_Writes.2⟩
  have iO_Sum : OwnI K (c 3) := ⟨T.o_Sum⟩
  have iA_Sum_row : NoaI K (c 3) "row" := ⟨T.a_Sum_row⟩
  have iA_Sum_carries : NoaI K (c 3) "carries" := ⟨T.a_Sum_carries⟩
  have iK_Sum_Writes : KitI K (c 3) (c 1) false := ⟨T.q_Writes.kit T.k_Sum_Writes.1 T.k_Sum_Writes.2⟩
  have iO_Times : OwnI K (c 4) := ⟨T.o_Times⟩
  have iA_Times_row : NoaI K (c 4) "row" := ⟨T.a_Times_row⟩
  have iA_Times_carries : NoaI K (c 4) "carries" := ⟨T.a_Times_carries⟩
  have iK_Times_Writes : KitI K (c 4) (c 1) false := ⟨T.q_Writes.kit T.k_Times_Writes.1 T.k_Times_Writes.2⟩
  refine T.f_law_times.okG sc_law_times (fun vs H Q E h => ?_) (fun f cdv A outer s H vs Q E hr gd h => ?_)
  · obtain ⟨p, n, f, rfl, o, h0, h1, f0, f1, q⟩ := h
    rfl
  · obtain ⟨p, n, f, rfl, o, h0, h1, f0, f1, q⟩ := h
    refine ⟨_, (pss_cons (ps_set (i := 2) sc_law_times.nd rfl (Or.inl rfl) (pe_fn F_times hr rfl (pa_cons (pe_tupB (pa_cons pe_int (pa_cons pe_int pa_nil))) (pa_cons (pv 0) (pa_cons (pv 1) pa_nil)))))
      (pss_one (ps_ret (pe_tupB (pa_cons (pe_lstB (pa_cons (pe_callTy (cr_strL gd hr.units) rfl T.n_str (by decide +kernel) (pa_cons (pe_fldK (K := K) rfl (pv 2) rfl) pa_nil)) (pa_cons (mt_of (pe_meth (pe_up (pv 2)) T.o_Times.cl Mm_Times G_Times (hr.mono (by decide)) b_Times .nil pass0 (pa_cons (pe_tupB (pa_cons pe_int (pa_cons pe_int pa_nil))) (pa_cons (pe_callTy cr_listB rfl T.n_list (by decide +kernel) (pa_cons (pv 0) pa_nil)) (pa_cons (pv 1) pa_nil))))) pa_nil))) (pa_cons (pe_lstB (pa_cons (pe_fldK (K := K) rfl (pv 2) rfl) (pa_cons (pe_fldK (K := K) rfl (pv 2) rfl) pa_nil))) pa_nil)))))), ?_⟩
    have rl := (low_row h0 h1).1
    have rf := row_fig gB.b1 gB.ba n h0
    have rff := figs_of rf
    have rr := rdo_row gB.b1 gB.ba n h0
    have ml := mul_len gB (f := f) f0 (by omega) h0
    have fn0 : 0 ≤ f * n := Int.mul_nonneg f0 h0
    have tf := row_fig gB.b1 gB.ba (f * n) fn0
    have fn1 : f * n ≤ 30 * 90 := Int.mul_le_mul f1 h1 h0 (by decide)
    have mr := mid_row fn0 (by omega)
    walk_at "go"
    rename_i t1 H1 st1 ft1 ot1
    refine go_times gB rff (by omega) rr f0 (by omega) ?_
    intro H2 x dx r1 r2 s2 fx fr1 fr2 e1 e2 e3 e4 nr e6 ox or1 or2
    walk_at "go"
    refine rd_strL (by omega) (fun z hz => by have := tf z hz; omega) ?_
    walk_at "go"
    refine go_Times_shows gB rff (by omega) rr f0 (by omega) (by omega) (by omega) fun H3 s3 => ?_
    rw [decide_eq_true ⟨rfl, rfl⟩]
    walk_at "go"
    rename_i p7 H7 s7 f7 o7 p8 H8 s8 f8 o8 p9 H9 s9 f9 o9
    have o7' : OB H9 p7 (.lst [.str (PyData.shown (dI (row 3 2 (f * n)))), .bl true]) := inferInstance
    have o8' : OB H9 p8 (.lst [.ref r1, .ref r2]) := inferInstance
    have or1' : OB H9 r1 (.lst ((row 3 2 (f * n)).map V.int)) := inferInstance
    have or2' : OB H9 r2 (.lst ((mulC 3 2 f n).map V.int)) := inferInstance
    have n1 : NE r1 p8 := inferInstance
    have n2 : NE r2 p8 := inferInstance
    
    exact q p9 _ _ (fun b => b = p8 ∨ b = r1 ∨ b = r2) H9 smx o9 (show_lst o7' (.cons (.str _) (.cons (.bl true) .nil)) (by simp) (fun d hd => by
      rcases List.mem_cons.mp hd with z | z
      · rw [z]; exact leaf_text _ (by omega) (fig_small (by omega))
      · rw [List.mem_singleton.mp z]; exact leaf_bool true)) (Spl.two o8' or1' or2' (by omega) (by omega) n1.h n2.h nr.h) (fun b e => by
      rcases e with e | e | e <;> rw [e]
      · exact (frx (M := H7) : FR0 H p8).h
      · exact (frx (M := H1) : FR0 H r1).h
      · exact (frx (M := H1) : FR0 H r2).h)
theorem sc_law_added : FnScope ["_law_one", "_law_other", "_law_found"] ["_law_one", "_law_other"] (defScope s_law_added) := ⟨rfl, rfl, rfl, by decide +kernel, rfl, by decide +kernel, by decide +kernel⟩
def sp_law_added (K : PySem.W.Frag) : Sp := fun vs H Q _ => ∃ (p r : Addr) (n m : Int), vs = [.ref p, .ref r] ∧ OB H p (.lst ((row 3 2 n).map V.int)) ∧ OB H r (.lst ((row 3 2 m).map V.int)) ∧ 0 ≤ n ∧ n ≤ 90 ∧ 0 ≤ m ∧ m ≤ 90 ∧ Told K Q (.list [.str (PyData.shown (dI (row 3 2 (n + m)))), .bool true]) H
theorem go_law_added {K : PySem.W.Frag} {p r : Addr} {n m : Int} {H : Hp} {Q : VK} {E : XK} (o : OB H p (.lst ((row 3 2 n).map V.int))) (o2 : OB H r (.lst ((row 3 2 m).map V.int))) (h0 : 0 ≤ n) (h1 : n ≤ 90) (f0 : 0 ≤ m) (f1 : m ≤ 90) (q : Told K Q (.list [.str (PyData.shown (dI (row 3 2 (n + m)))), .bool true]) H) : sp_law_added K [.ref p, .ref r] H Q E := ⟨p, r, n, m, rfl, o, o2, h0, h1, f0, f1, q⟩
theorem ok_law_added (T : Top K mg c) : FnG P w K mg base "_law_added" ["_law_one", "_law_other"] 6 (sp_law_added K) := by
  have F_added := ok_added (P := P) (w := w) (base := base) T
  obtain ⟨_, _, G_Writes, b_Writes, Mm_Writes⟩ := (okm_Writes (P := P) (w := w) (base := base) T).ex
  obtain ⟨_, _, G_Breaks, b_Breaks, Mm_Breaks⟩ := (okm_Breaks (P := P) (w := w) (base := base) T).ex
  obtain ⟨_, _, G_Sum, b_Sum, Mm_Sum⟩ := (okm_Sum (P := P) (w := w) (base := base) T).ex
  obtain ⟨_, _, G_Times, b_Times, Mm_Times⟩ := (okm_Times (P := P) (w := w) (base := base) T).ex
  have iO_Writes : OwnI K (c 1) := ⟨T.o_Writes⟩
  have iA_Writes_number : NoaI K (c 1) "number" := ⟨T.a_Writes_number⟩
  have iK_Writes_Writes : KitI K (c 1) (c 1) true := ⟨T.q_Writes.kit T.k_Writes_Writes.1 T.k_Writes_Writes.2⟩
  have iO_Breaks : OwnI K (c 2) := ⟨T.o_Breaks⟩
  have iA_Breaks_place : NoaI K (c 2) "place" := ⟨T.a_Breaks_place⟩
  have iA_Breaks_left : NoaI K (c 2) "left" := ⟨T.a_Breaks_left⟩
  have iK_Breaks_Writes : KitI K (c 2) (c 1) false := ⟨T.q_Writes.kit T.k_Breaks_Writes.1 T.k_Breaks_Writes.2⟩
  have iO_Sum : OwnI K (c 3) := ⟨T.o_Sum⟩
  have iA_Sum_row : NoaI K (c 3) "row" := ⟨T.a_Sum_row⟩
  have iA_Sum_carries : NoaI K (c 3) "carries" := ⟨T.a_Sum_carries⟩
  have iK_Sum_Writes : KitI K (c 3) (c 1) false := ⟨T.q_Writes.kit T.k_Sum_Writes.1 T.k_Sum_Writes.2⟩
  have iO_Times : OwnI K (c 4) := ⟨T.o_Times⟩
  have iA_Times_row : NoaI K (c 4) "row" := ⟨T.a_Times_row⟩
  have iA_Times_carries : NoaI K (c 4) "carries" := ⟨T.a_Times_carries⟩
  have iK_Times_Writes : KitI K (c 4) (c 1) false := ⟨T.q_Writes.kit T.k_Times_Writes.1 T.k_Times_Writes.2⟩
  refine T.f_law_added.okG sc_law_added (fun vs H Q E h => ?_) (fun f cdv A outer s H vs Q E hr gd h => ?_)
  · obtain ⟨p, r, n, m, rfl, o, o2, h0, h1, f0, f1, q⟩ := h
    rfl
  · obtain ⟨p, r, n, m, rfl, o, o2, h0, h1, f0, f1, q⟩ := h
    refine ⟨_, (pss_cons (ps_set (i := 2) sc_law_added.nd rfl (Or.inl rfl) (pe_fn F_added hr rfl (pa_cons (pe_tupB (pa_cons pe_int (pa_cons pe_int pa_nil))) (pa_cons (pv 0) (pa_cons (pv 1) pa_nil)))))
      (pss_one (ps_ret (pe_tupB (pa_cons (pe_lstB (pa_cons (pe_callTy (cr_strL gd hr.units) rfl T.n_str (by decide +kernel) (pa_cons (pe_fldK (K := K) rfl (pv 2) rfl) pa_nil)) (pa_cons (mt_of (pe_meth (pe_up (pv 2)) T.o_Sum.cl Mm_Sum G_Sum (hr.mono (by decide)) b_Sum .nil pass0 (pa_cons (pe_tupB (pa_cons pe_int (pa_cons pe_int pa_nil))) (pa_cons (pe_callTy cr_listB rfl T.n_list (by decide +kernel) (pa_cons (pv 0) pa_nil)) (pa_cons (pe_callTy cr_listB rfl T.n_list (by decide +kernel) (pa_cons (pv 1) pa_nil)) pa_nil))))) pa_nil))) (pa_cons (pe_lstB (pa_cons (pe_fldK (K := K) rfl (pv 2) rfl) (pa_cons (pe_fldK (K := K) rfl (pv 2) rfl) pa_nil))) pa_nil)))))), ?_⟩
    have rl := (low_row h0 h1).1
    have rl2 := (low_row f0 f1).1
    have rff := figs_of (row_fig gB.b1 gB.ba n h0)
    have rff2 := figs_of (row_fig gB.b1 gB.ba m f0)
    have rr := rdo_row gB.b1 gB.ba n h0
    have rr2 := rdo_row gB.b1 gB.ba m f0
    have al := add_len gB h0 f0
    have tf := row_fig gB.b1 gB.ba (n + m) (by omega)
    have mr := mid_row (n := n + m) (by omega) (by omega)
    walk_at "go"
    rename_i t1 H1 st1 ft1 ot1
    refine go_added gB rff (by omega) rr rff2 (by omega) rr2 ?_
    intro H2 x dx r1 r2 s2 fx fr1 fr2 e1 e2 e3 e4 nr e6 ox or1 or2
    walk_at "go"
    refine rd_strL (by omega) (fun z hz => by have := tf z hz; omega) ?_
    walk_at "go"
    refine go_Sum_shows gB rff (by omega) rr rff2 (by omega) rr2 (by omega) (by omega) fun H3 s3 => ?_
    rw [decide_eq_true ⟨rfl, rfl⟩]
    walk_at "go"
    rename_i p7 H7 s7 f7 o7 p8 H8 s8 f8 o8 p9 H9 s9 f9 o9
    have o7' : OB H9 p7 (.lst [.str (PyData.shown (dI (row 3 2 (n + m)))), .bl true]) := inferInstance
    have o8' : OB H9 p8 (.lst [.ref r1, .ref r2]) := inferInstance
    have or1' : OB H9 r1 (.lst ((row 3 2 (n + m)).map V.int)) := inferInstance
    have or2' : OB H9 r2 (.lst ((addC 3 2 n m).map V.int)) := inferInstance
    have n1 : NE r1 p8 := inferInstance
    have n2 : NE r2 p8 := inferInstance
    
    exact q p9 _ _ (fun b => b = p8 ∨ b = r1 ∨ b = r2) H9 smx o9 (show_lst o7' (.cons (.str _) (.cons (.bl true) .nil)) (by simp) (fun d hd => by
      rcases List.mem_cons.mp hd with z | z
      · rw [z]; exact leaf_text _ (by omega) (fig_small (by omega))
      · rw [List.mem_singleton.mp z]; exact leaf_bool true)) (Spl.two o8' or1' or2' (by omega) (by omega) n1.h n2.h nr.h) (fun b e => by
      rcases e with e | e | e <;> rw [e]
      · exact (frx (M := H7) : FR0 H p8).h
      · exact (frx (M := H1) : FR0 H r1).h
      · exact (frx (M := H1) : FR0 H r2).h)
theorem sc_law_door_right : FnScope ["_law_ask", "_law_lists", "_law_others", "_law_handed", "_law_fixed", "_law_told_lists", "_law_text", "_law_due", "_law_some", "_law_again"] ["_law_ask", "_law_lists", "_law_others"] (defScope s_law_door_right) := ⟨rfl, rfl, rfl, by decide +kernel, rfl, by decide +kernel, by decide +kernel⟩
def sp_law_door_right (P : Program) (w : World) (K : PySem.W.Frag) (mg : Str → Option Value) (base : Heap) : Sp := fun vs H Q _ => ∃ (v : V) (L O : Addr) (two : Bool) (ws us : List Int), vs = [v, .ref L, .ref O] ∧ Rows H L ws ∧ Rows H O us ∧ OkW two ws ∧ OkW two us ∧ AskOk P w K mg base two H v ∧ ∀ H', SM H' H → Q (.bl true) H'
theorem go_law_door_right {P : Program} {w : World} {K : PySem.W.Frag} {mg : Str → Option Value} {base : Heap} {v : V} {L O : Addr} {two : Bool} {ws us : List Int} {H : Hp} {Q : VK} {E : XK} (hL : Rows H L ws) (hO : Rows H O us) (okw : OkW two ws) (oku : OkW two us) (ha : AskOk P w K mg base two H v) (q : ∀ H', SM H' H → Q (.bl true) H') : sp_law_door_right P w K mg base [v, .ref L, .ref O] H Q E := ⟨v, L, O, two, ws, us, rfl, hL, hO, okw, oku, ha, q⟩
theorem notin {H : Hp} {ys : List V} {nss : List (List Int)} {b : Addr} (f : Fa (LI H) ys nss) (n : H b = none) : V.ref b ∉ ys := fun hm => by
  obtain ⟨j, hj⟩ := List.mem_iff_getElem?.mp hm
  obtain ⟨ns, _, q', e, o⟩ := f.get hj
  cases e
  have h := o.h
  rw [n] at h
  cases h
theorem NewL.out {G : Hp} {D b : Addr} {ys : List V} {o : HO} (nw : NewL G D ys) (h : OB G b o) : V.ref b ∉ ys := fun hm => by
  have h1 := h.h
  rw [nw.f b hm] at h1
  cases h1
theorem NewL.outs {G : Hp} {D : Addr} {ys xs : List V} {nss : List (List Int)} (nw : NewL G D ys) (h : Fa (LI G) xs nss) : ∀ x ∈ xs, x ∉ ys := fun x hx => by
  obtain ⟨j, hj⟩ := List.mem_iff_getElem?.mp hx
  obtain ⟨ns, _, q', e, o⟩ := h.get hj
  rw [e]
  exact nw.out o
theorem ok_law_door_right (T : Top K mg c) : FnG P w K mg base "_law_door_right" ["_law_ask", "_law_lists", "_law_others"] 14 (sp_law_door_right P w K mg base) := by
  have F_law_deep := ok_law_deep (P := P) (w := w) (base := base) T
  have F_law_spoilt := ok_law_spoilt (P := P) (w := w) (base := base) T
  have F_law_put := ok_law_put (P := P) (w := w) (base := base) T
  have iO_Writes : OwnI K (c 1) := ⟨T.o_Writes⟩
  have iA_Writes_number : NoaI K (c 1) "number" := ⟨T.a_Writes_number⟩
  have iK_Writes_Writes : KitI K (c 1) (c 1) true := ⟨T.q_Writes.kit T.k_Writes_Writes.1 T.k_Writes_Writes.2⟩
  have iO_Breaks : OwnI K (c 2) := ⟨T.o_Breaks⟩
  have iA_Breaks_place : NoaI K (c 2) "place" := ⟨T.a_Breaks_place⟩
  have iA_Breaks_left : NoaI K (c 2) "left" := ⟨T.a_Breaks_left⟩
  have iK_Breaks_Writes : KitI K (c 2) (c 1) false := ⟨T.q_Writes.kit T.k_Breaks_Writes.1 T.k_Breaks_Writes.2⟩
  have iO_Sum : OwnI K (c 3) := ⟨T.o_Sum⟩
  have iA_Sum_row : NoaI K (c 3) "row" := ⟨T.a_Sum_row⟩
  have iA_Sum_carries : NoaI K (c 3) "carries" := ⟨T.a_Sum_carries⟩
  have iK_Sum_Writes : KitI K (c 3) (c 1) false := ⟨T.q_Writes.kit T.k_Sum_Writes.1 T.k_Sum_Writes.2⟩
  have iO_Times : OwnI K (c 4) := ⟨T.o_Times⟩
  have iA_Times_row : NoaI K (c 4) "row" := ⟨T.a_Times_row⟩
  have iA_Times_carries : NoaI K (c 4) "carries" := ⟨T.a_Times_carries⟩
  have iK_Times_Writes : KitI K (c 4) (c 1) false := ⟨T.q_Writes.kit T.k_Times_Writes.1 T.k_Times_Writes.2⟩
  refine T.f_law_door_right.okG sc_law_door_right (fun vs H Q E h => ?_) (fun f cdv A outer s H vs Q E hr gd h => ?_)
  · obtain ⟨v, L, O, two, ws, us, rfl, hL, hO, okw, oku, ha, q⟩ := h
    rfl
  · obtain ⟨v, L, O, two, ws, us, rfl, hL, hO, okw, oku, ha, q⟩ := h
    refine ⟨_, (pss_cons (ps_set (i := 3) sc_law_door_right.nd rfl (Or.inl rfl) (pe_fn F_law_deep hr rfl (pa_cons (pv 1) pa_nil)))
      (pss_cons (ps_asg (pe_askG (P := P) (w := w) (K := K) (mg := mg) (base := base) (k := 13) (i := 0) (x := "_law_ask") rfl rfl rfl rfl rfl hr gd (takesN (X := _)) rfl (Or.inl rfl) (pa_cons (pv 3) pa_nil)) (pg_tupB (n := 2) rfl (pgs_cons (pg_name (i := 4) sc_law_door_right.nd rfl (Or.inl rfl)) (pgs_cons (pg_name (i := 5) sc_law_door_right.nd rfl (Or.inl rfl)) pgs_nil))))
      (pss_cons (ps_par (i := 6) (j := 7) rfl sc_law_door_right.nd rfl rfl (by decide) rfl rfl (pa_cons (pe_callTy (cr_strD (K := K) rfl gd hr.units) rfl T.n_str (by decide +kernel) (pa_cons (pv 4) pa_nil)) (pa_cons (pe_callTy (cr_strD (K := K) rfl gd hr.units) rfl T.n_str (by decide +kernel) (pa_cons (pe_ix ix_tupB (pe_askG (P := P) (w := w) (K := K) (mg := mg) (base := base) (k := 13) (i := 0) (x := "_law_ask") rfl rfl rfl rfl rfl hr gd (takesN (X := _)) rfl (Or.inl rfl) (pa_cons (pe_fn F_law_deep hr rfl (pa_cons (pv 2) pa_nil)) pa_nil)) pe_int (fun _ _ => rfl)) pa_nil)) pa_nil)) rfl)
      (pss_cons (ps_if (pt_cmpR (op_neB (K := K) rfl hr.units) (pv 3) (pv 1) (nomark _)) (pss_one (ps_ret pe_bl)) pss_nil)
      (pss_cons (ps_expr (pe_fn F_law_spoilt hr rfl (pa_cons (pv 5) pa_nil)))
      (pss_cons (ps_if (PW.pt (pw_or (pt_cmpR op_ne (pe_callTy (cr_strD (K := K) rfl gd hr.units) rfl T.n_str (by decide +kernel) (pa_cons (pe_ix ix_tupB (pe_askG (P := P) (w := w) (K := K) (mg := mg) (base := base) (k := 13) (i := 0) (x := "_law_ask") rfl rfl rfl rfl rfl hr gd (takesN (X := _)) rfl (Or.inl rfl) (pa_cons (pv 3) pa_nil)) pe_int (fun _ _ => rfl)) pa_nil)) (pv 6) (nomark _)) (pw_or1 (pt_cmpR (op_neB (K := K) rfl hr.units) (pv 3) (pv 1) (nomark _))))) (pss_one (ps_ret pe_bl)) pss_nil)
      (pss_cons (ps_for PassesOwn.never rfl (pi_tupK (K := K) rfl (pe_tupB (pa_cons (pe_tupB (pa_cons (pv 2) (pa_cons (pv 7) pa_nil))) (pa_cons (pe_tupB (pa_cons (pv 1) (pa_cons (pv 6) pa_nil))) pa_nil)))) (pg_tupB (n := 2) rfl (pgs_cons (pg_name (i := 8) sc_law_door_right.nd rfl (Or.inl rfl)) (pgs_cons (pg_name (i := 9) sc_law_door_right.nd rfl (Or.inl rfl)) pgs_nil)))
      (pss_cons (ps_expr (pe_fn F_law_put hr rfl (pa_cons (pv 3) (pa_cons (pv 8) pa_nil))))
      (pss_one (ps_if (PW.pt (pw_or (pt_cmpR op_ne (pe_callTy (cr_strD (K := K) rfl gd hr.units) rfl T.n_str (by decide +kernel) (pa_cons (pe_ix ix_tupB (pe_askG (P := P) (w := w) (K := K) (mg := mg) (base := base) (k := 13) (i := 0) (x := "_law_ask") rfl rfl rfl rfl rfl hr gd (takesN (X := _)) rfl (Or.inl rfl) (pa_cons (pv 3) pa_nil)) pe_int (fun _ _ => rfl)) pa_nil)) (pv 9) (nomark _)) (pw_or1 (pt_cmpR (op_neB (K := K) rfl hr.units) (pv 3) (pv 8) (nomark _))))) (pss_one (ps_ret pe_bl)) pss_nil))))
      (pss_one (ps_ret pe_bl))))))))), ?_⟩
    obtain ⟨f, F, e, ans, cap, rfl, of, oc, capm, cp, Lp⟩ := ha
    obtain ⟨xs, oL, fx⟩ := hL
    obtain ⟨zs, oO, fz⟩ := hO
    have lw := okw.len
    have lu := oku.len
    have lx := fx.len
    have lz := fz.len
    rw [List.length_map] at lx lz
    have l2 : (if two = true then 2 else 1) ≤ 2 := by split <;> omega
    walk_at "go"
    refine go_law_deep_rows (by omega) fx (by omega) okw.rows fun h ys H1 s1 fh oh fy nw => ?_
    have ly := fy.len
    rw [List.length_map] at ly
    walk_at "go"
    
    refine ⟨f, F, e, rfl, (inferInstance : OB H1 f (LamO f F e)).h, ?_⟩
    walk_at "go"
    refine ⟨_, (inferInstance : OB H1 f (LamO f F e)).h, (inferInstance : OB H1 F.c (LamX.CodeO F.c F.qual)).h, Lp, h, ws, rfl, ⟨ys, inferInstance, fy⟩, okw, capm _ _ inferInstance cp, ?_⟩
    
    intro t v u S H2 s2 ot hv hu hS
    walk_at "go"
    refine ⟨_, _, rfl, hv, ?_⟩
    walk_at "go"
    refine ⟨f, F, e, rfl, (inferInstance : OB H2 f (LamO f F e)).h, ?_⟩
    walk_at "go"
    refine go_law_deep_rows (xs := zs) (nss := us.map (row 3 2)) (by omega) (fz.imp fun _ _ z => z.mono inferInstance) (by omega) oku.rows fun h3 ys3 H3 s3 fh3 oh3 fy3 nw3 => ?_
    walk_at "go"
    refine ⟨_, (inferInstance : OB H3 f (LamO f F e)).h, (inferInstance : OB H3 F.c (LamX.CodeO F.c F.qual)).h, Lp, h3, us, rfl, ⟨ys3, inferInstance, fy3⟩, oku, capm _ _ inferInstance cp, ?_⟩
    
    intro t4 v4 u4 S4 H4 s4 ot4 hv4 hu4 hS4
    have ll1 : LLs H4 ys (ws.map (row 3 2)) := ⟨fy.imp fun _ _ z => z.mono inferInstance⟩
    have ll2 : LLs H4 xs (ws.map (row 3 2)) := ⟨fx.imp fun _ _ z => z.mono inferInstance⟩
    walk_at "go"
    refine ⟨_, _, rfl, hv4, ?_⟩
    walk_at "go"
    refine go_law_spoilt (S := S) (hu.sx inferInstance) fun H5 m5 => ?_
    have sx51 : SX H5 H1 := m5.fresh hS
    have sm51 : SM H5 H1 := ⟨sx51.s⟩
    clear ll1 ll2
    walk_at "go"
    
    refine ⟨f, F, e, rfl, (inferInstance : OB H5 f (LamO f F e)).h, ?_⟩
    walk_at "go"
    refine ⟨_, (inferInstance : OB H5 f (LamO f F e)).h, (inferInstance : OB H5 F.c (LamX.CodeO F.c F.qual)).h, Lp, h, ws, rfl, ⟨ys, inferInstance, (fy.imp fun _ _ z => z.mono inferInstance)⟩, okw, capm _ _ inferInstance cp, ?_⟩
    
    intro t6 v6 u6 S6 H6 s6 ot6 hv6 hu6 hS6
    have fy6 : Fa (LI H6) ys (ws.map (row 3 2)) := fy.imp fun _ _ z => z.mono inferInstance
    have ll1 : LLs H6 ys (ws.map (row 3 2)) := ⟨fy6⟩
    have ll2 : LLs H6 xs (ws.map (row 3 2)) := ⟨fx.imp fun _ _ z => z.mono inferInstance⟩
    walk_at "go"
    refine ⟨_, _, rfl, hv6, ?_⟩
    walk_at "go"
    rename_i ta Ha sa fa oa tb Hb sb fb ob tc Hc sc fc' oc2
    have ia : V.ref ta ∉ ys := notin fy6 fa.h
    have ib : V.ref tb ∉ ys := notin (H := Ha) (fy6.imp fun _ _ z => z.mono inferInstance) fb.h
    have ic : V.ref tc ∉ ys := notin (H := Hb) (fy6.imp fun _ _ z => z.mono inferInstance) fc'.h
    have fyc : Fa (LI Hc) ys (ws.map (row 3 2)) := fy6.imp fun _ _ z => z.mono inferInstance
    have oac : OB Hc ta (.tup [.ref O, .str (PyData.shown (ans us))]) := inferInstance
    have obc : OB Hc tb (.tup [.ref L, .str (PyData.shown (ans ws))]) := inferInstance
    have ohc : OB Hc h (.lst ys) := inferInstance
    have sxc : SX Hc H := inferInstance
    clear ll1 ll2
    refine forM (it_tup (xs := [.ref ta, .ref tb])) (fun i σ H' => ∃ v8 v9 cur, σ = [some (.ref f), some (.ref L), some (.ref O), some (.ref h), some v, some u, some (.str (PyData.shown (ans ws))), some (.str (PyData.shown (ans us))), v8, v9] ∧ MS (fun b => V.ref b ∈ ys) H' Hc ∧ Fa (LI H') ys (cur.map (row 3 2)) ∧ OkW two cur) ⟨_, _, ws, rfl, MS.refl _, fyc, okw⟩ (fun i σ H' hh => ?_) ?_ ?_
    · obtain ⟨_, _, _, rfl, m, _⟩ := hh
      exact m.ob (b := oc2) ic
    · rintro i vv σ H7 H7x hi ⟨v8, v9, cur, rfl, m, fc, okc⟩ ⟨rfl, hvv⟩
      obtain ⟨tt, B, bs, cs, rfl, ott, oB, fB, okc2⟩ : ∃ (tt B : Addr) (bs : List V) (cs : List Int), vv = .ref tt ∧ OB H7x tt (.tup [.ref B, .str (PyData.shown (ans cs))]) ∧ OB H B (.lst bs) ∧ Fa (LI H) bs (cs.map (row 3 2)) ∧ OkW two cs := by
        match i, hvv with
        | 0, hvv => cases hvv; exact ⟨ta, O, zs, us, rfl, m.ob (b := oac) ia, oO, fz, oku⟩
        | 1, hvv => cases hvv; exact ⟨tb, L, xs, ws, rfl, m.ob (b := obc) ib, oL, fx, okw⟩
      have sx7 : SX H7x H := m.fresh nw.f
      have sm7 : SM H7x H := ⟨sx7.s⟩
      have lb := fB.len
      have lc1 := okc.len
      have lc2 := okc2.len
      have lcy := fc.len
      rw [List.length_map] at lb lcy
      have oh7 : OB H7x h (.lst ys) := m.ob (b := ohc) nw.d
      have oB7 : OB H7x B (.lst bs) := inferInstance
      walk_at "go"
      refine go_law_put (nss := cur.map (row 3 2)) (mss := cs.map (row 3 2)) fc (fB.imp fun _ _ z => z.mono sx7) (by omega) okc2.rows nw.n nw.d (nw.out oB) (nw.outs fB) fun H8 m8 f8 => ?_
      have m8c : MS (fun b => V.ref b ∈ ys) H8 Hc := m8.trans m
      have sx8 : SX H8 H := m8c.fresh nw.f
      have sm8 : SM H8 H := ⟨sx8.s⟩
      have oh8 : OB H8 h (.lst ys) := m8.ob (b := oh7) nw.d
      clear sm7 sx7 oB7 oh7 ott
      walk_at "go"
      refine ⟨f, F, e, rfl, (inferInstance : OB H8 f (LamO f F e)).h, ?_⟩
      walk_at "go"
      refine ⟨_, (inferInstance : OB H8 f (LamO f F e)).h, (inferInstance : OB H8 F.c (LamX.CodeO F.c F.qual)).h, Lp, h, cs, rfl, ⟨ys, inferInstance, f8⟩, okc2, capm _ _ inferInstance cp, ?_⟩
      intro t9 v9' u9 S9 H9 s9 ot9 hv9 hu9 hS9
      have f9 : Fa (LI H9) ys (cs.map (row 3 2)) := f8.imp fun _ _ z => z.mono inferInstance
      have ll1 : LLs H9 ys (cs.map (row 3 2)) := ⟨f9⟩
      have ll2 : LLs H9 bs (cs.map (row 3 2)) := ⟨fB.imp fun _ _ z => z.mono inferInstance⟩
      walk_at "go"
      refine ⟨_, _, rfl, hv9, ?_⟩
      walk_at "go"
      exact ⟨_, _, cs, rfl, (MS.sx inferInstance).trans m8c, f9, okc2⟩
    · rintro σ H7 ⟨v8, v9, cur, rfl, m, fc, okc⟩
      walk_at "go"
      exact q _ ⟨(m.fresh nw.f : SX H7 H).s⟩
theorem sc_law_doors_right : FnScope ["_law_asks", "_law_lists", "_law_others", "_law_ask"] ["_law_asks", "_law_lists", "_law_others"] (defScope s_law_doors_right) := ⟨rfl, rfl, rfl, by decide +kernel, rfl, by decide +kernel, by decide +kernel⟩
def sp_law_doors_right (P : Program) (w : World) (K : PySem.W.Frag) (mg : Str → Option Value) (base : Heap) : Sp := fun vs H Q _ => ∃ (G L O : Addr) (asks : List V) (two : Bool) (ws us : List Int), vs = [.ref G, .ref L, .ref O] ∧ OB H G (.lst asks) ∧ asks.length ≤ 100 ∧ Rows H L ws ∧ Rows H O us ∧ OkW two ws ∧ OkW two us ∧ (∀ v ∈ asks, AskOk P w K mg base two H v) ∧ ∀ H', SM H' H → Q (.bl true) H'
theorem go_law_doors_right {P : Program} {w : World} {K : PySem.W.Frag} {mg : Str → Option Value} {base : Heap} {G L O : Addr} {asks : List V} (two : Bool) (ws us : List Int) {H : Hp} {Q : VK} {E : XK} [o : OB H G (.lst asks)] (hl : asks.length ≤ 100) (hL : Rows H L ws) (hO : Rows H O us) (okw : OkW two ws) (oku : OkW two us) (ha : ∀ v ∈ asks, AskOk P w K mg base two H v) (q : ∀ H', SM H' H → Q (.bl true) H') : sp_law_doors_right P w K mg base [.ref G, .ref L, .ref O] H Q E := ⟨G, L, O, asks, two, ws, us, rfl, o, hl, hL, hO, okw, oku, ha, q⟩
theorem ok_law_doors_right (T : Top K mg c) : FnG P w K mg base "_law_doors_right" ["_law_asks", "_law_lists", "_law_others"] 15 (sp_law_doors_right P w K mg base) := by
  have F_law_door_right := ok_law_door_right (P := P) (w := w) (base := base) T
  have iO_Writes : OwnI K (c 1) := ⟨T.o_Writes⟩
  have iA_Writes_number : NoaI K (c 1) "number" := ⟨T.a_Writes_number⟩
  have iK_Writes_Writes : KitI K (c 1) (c 1) true := ⟨T.q_Writes.kit T.k_Writes_Writes.1 T.k_Writes_Writes.2⟩
  have iO_Breaks : OwnI K (c 2) := ⟨T.o_Breaks⟩
  have iA_Breaks_place : NoaI K (c 2) "place" := ⟨T.a_Breaks_place⟩
  have iA_Breaks_left : NoaI K (c 2) "left" := ⟨T.a_Breaks_left⟩
  have iK_Breaks_Writes : KitI K (c 2) (c 1) false := ⟨T.q_Writes.kit T.k_Breaks_Writes.1 T.k_Breaks_Writes.2⟩
  have iO_Sum : OwnI K (c 3) := ⟨T.o_Sum⟩
  have iA_Sum_row : NoaI K (c 3) "row" := ⟨T.a_Sum_row⟩
  have iA_Sum_carries : NoaI K (c 3) "carries" := ⟨T.a_Sum_carries⟩
  have iK_Sum_Writes : KitI K (c 3) (c 1) false := ⟨T.q_Writes.kit T.k_Sum_Writes.1 T.k_Sum_Writes.2⟩
  have iO_Times : OwnI K (c 4) := ⟨T.o_Times⟩
  have iA_Times_row : NoaI K (c 4) "row" := ⟨T.a_Times_row⟩
  have iA_Times_carries : NoaI K (c 4) "carries" := ⟨T.a_Times_carries⟩
  have iK_Times_Writes : KitI K (c 4) (c 1) false := ⟨T.q_Writes.kit T.k_Times_Writes.1 T.k_Times_Writes.2⟩
  refine T.f_law_doors_right.okG sc_law_doors_right (fun vs H Q E h => ?_) (fun f cdv A outer s H vs Q E hr gd h => ?_)
  · obtain ⟨G, L, O, asks, two, ws, us, rfl, o, hl, hL, hO, okw, oku, ha, q⟩ := h
    rfl
  · obtain ⟨G, L, O, asks, two, ws, us, rfl, o, hl, hL, hO, okw, oku, ha, q⟩ := h
    refine ⟨_, (pss_one (ps_ret (pe_callB (cr_allB rfl) rfl T.n_all (by decide +kernel) (pa_cons (pe_lc (own := [("_law_ask", 3)]) (g := gName 3) (tt := tYes) rfl sc_law_doors_right.nd (pi_listK (K := K) rfl (pv 0)) (blkOk_by (own := [("_law_ask", 3)]) (N := ["_law_asks", "_law_lists", "_law_others", "_law_ask"]) (sc := defScope s_law_doors_right) (by decide +kernel)) (fun _ _ _ _ _ => (pg_name (i := 3) sc_law_doors_right.nd rfl (Or.inl rfl))) (fun _ _ _ _ _ => pts_nil) (fun _ _ _ _ _ => (pe_fnG F_law_door_right hr gd rfl (pa_cons (pv 3) (pa_cons (pv 1) (pa_cons (pv 2) pa_nil)))))) pa_nil)))), ?_⟩
    walk_at "go"
    refine lcMap asks (fun _ => V.bl true) (it_list (xs := asks)) rfl (by omega) (fun H' s => inferInstance) ?_ ?_
    · rintro j x2 v2 H3 H3x hj s3 ⟨rfl, hv2⟩ Nt Nf ht
      have e2 : v2 = x2 := Option.some.inj (hv2.symm.trans hj)
      subst e2
      have sx : SX H3x H := inferInstance
      walk_at "go"
      refine go_law_door_right (hL.sx sx) (hO.sx sx) okw oku ((ha v2 (List.mem_of_getElem? hj)).sx sx) fun H4 s4 => ?_
      exact ht _ smx
    intro D H4 s4 f4 o4
    have o5 : OB H4 D (.lst ((asks.map fun _ => true).map V.bl)) := by rw [List.map_map]; exact o4
    clear o4
    walk_at "go"
    rw [all_mt]
    exact q _ smx
theorem sc_law : FnScope ["_law_script", "_law_by", "_law_cell", "_law_low", "_law_one", "_law_two_here", "_law_more", "_law_asks", "_law_both", "_law_broken", "_law_factor", "_law_many", "_law_whole"] ["_law_script"] (defScope s_law) := ⟨rfl, rfl, rfl, by decide +kernel, rfl, by decide +kernel, by decide +kernel⟩
theorem ok_law (T : Top K mg c) (B : TabsB base mg c) {f : Addr} {fd : FuncData} (F : FunC K "law" "law" s_law f fd (c 20)) : FnOkG P w K mg base CX0 16 f fd ["_law_script"] (spLaw (tabsT c) K) := by
  have F_law_cell_at := ok_law_cell_at (P := P) (w := w) (base := base) T
  have F_added := ok_added (P := P) (w := w) (base := base) T
  have F_law_number := ok_law_number (P := P) (w := w) (base := base) T
  have F_written := ok_written (P := P) (w := w) (base := base) T
  have F_judged := ok_judged (P := P) (w := w) (base := base) T
  have F_times := ok_times (P := P) (w := w) (base := base) T
  have F_law_judged := ok_law_judged (P := P) (w := w) (base := base) T
  have F_law_two := ok_law_two (P := P) (w := w) (base := base) T
  have F_law_doors_right := fun base' : Heap => ok_law_doors_right (P := P) (w := w) (base := base') T
  have F_law_added := ok_law_added (P := P) (w := w) (base := base) T
  have F_law_times := ok_law_times (P := P) (w := w) (base := base) T
  have F_taken := ok_taken (P := P) (w := w) (base := base) T
  have F_worth := ok_worth (P := P) (w := w) (base := base) T
  have F_ending := ok_ending (P := P) (w := w) (base := base) T
  obtain ⟨_, _, G_Writes, b_Writes, Mm_Writes⟩ := (okm_Writes (P := P) (w := w) (base := base) T).ex
  obtain ⟨_, _, G_Breaks, b_Breaks, Mm_Breaks⟩ := (okm_Breaks (P := P) (w := w) (base := base) T).ex
  obtain ⟨_, _, G_Sum, b_Sum, Mm_Sum⟩ := (okm_Sum (P := P) (w := w) (base := base) T).ex
  obtain ⟨_, _, G_Times, b_Times, Mm_Times⟩ := (okm_Times (P := P) (w := w) (base := base) T).ex
  have iO_Writes : OwnI K (c 1) := ⟨T.o_Writes⟩
  have iA_Writes_number : NoaI K (c 1) "number" := ⟨T.a_Writes_number⟩
  have iK_Writes_Writes : KitI K (c 1) (c 1) true := ⟨T.q_Writes.kit T.k_Writes_Writes.1 T.k_Writes_Writes.2⟩
  have iO_Breaks : OwnI K (c 2) := ⟨T.o_Breaks⟩
  have iA_Breaks_place : NoaI K (c 2) "place" := ⟨T.a_Breaks_place⟩
  have iA_Breaks_left : NoaI K (c 2) "left" := ⟨T.a_Breaks_left⟩
  have iK_Breaks_Writes : KitI K (c 2) (c 1) false := ⟨T.q_Writes.kit T.k_Breaks_Writes.1 T.k_Breaks_Writes.2⟩
  have iO_Sum : OwnI K (c 3) := ⟨T.o_Sum⟩
  have iA_Sum_row : NoaI K (c 3) "row" := ⟨T.a_Sum_row⟩
  have iA_Sum_carries : NoaI K (c 3) "carries" := ⟨T.a_Sum_carries⟩
  have iK_Sum_Writes : KitI K (c 3) (c 1) false := ⟨T.q_Writes.kit T.k_Sum_Writes.1 T.k_Sum_Writes.2⟩
  have iO_Times : OwnI K (c 4) := ⟨T.o_Times⟩
  have iA_Times_row : NoaI K (c 4) "row" := ⟨T.a_Times_row⟩
  have iA_Times_carries : NoaI K (c 4) "carries" := ⟨T.a_Times_carries⟩
  have iK_Times_Writes : KitI K (c 4) (c 1) false := ⟨T.q_Writes.kit T.k_Times_Writes.1 T.k_Times_Writes.2⟩
  refine F.okMG sc_law (fun vs H Q E h => ?_) (fun A outer s H vs Q E hr gd h => ?_)
  · obtain ⟨a, ns, rfl, _⟩ := h
    rfl
  · obtain ⟨a, ns, rfl, hS, hlen, hT, q⟩ := h
    refine ⟨_, (pss_cons (ps_for PassesOwn.never rfl (pi_range1 rfl T.n_range (pa_cons pe_int pa_nil)) (pg_name (i := 1) sc_law.nd rfl (Or.inl rfl))
      (pss_cons (ps_set (i := 2) sc_law.nd rfl (Or.inl rfl) (pe_fn F_law_cell_at hr rfl (pa_cons (pv 0) (pa_cons (pv 1) pa_nil))))
      (pss_cons (ps_asg (pe_tupB (pa_cons (pe_op op_add pe_int (pe_fn F_law_number hr rfl (pa_cons (pv 2) (pa_cons (pe_op op_add (pv 1) pe_int) (pa_cons pe_int pa_nil))))) (pa_cons (pe_fn F_law_number hr rfl (pa_cons (pv 2) (pa_cons (pe_op op_add (pv 1) pe_int) (pa_cons pe_int pa_nil)))) pa_nil))) (pg_tupB (n := 2) rfl (pgs_cons (pg_name (i := 3) sc_law.nd rfl (Or.inl rfl)) (pgs_cons (pg_name (i := 10) sc_law.nd rfl (Or.inr rfl)) pgs_nil))))
      (pss_cons (ps_par3 (i := 4) (j := 5) (l := 6) rfl sc_law.nd rfl rfl rfl (by decide) (by decide) (by decide) rfl rfl rfl (pa_cons (pe_fn F_written hr rfl (pa_cons (pe_tupB (pa_cons pe_int (pa_cons pe_int pa_nil))) (pa_cons (pe_op op_add (pv 3) pe_int) pa_nil))) (pa_cons (pe_fn F_written hr rfl (pa_cons (pe_tupB (pa_cons pe_int (pa_cons pe_int pa_nil))) (pa_cons (pv 3) pa_nil))) (pa_cons (pe_fn F_written hr rfl (pa_cons (pe_tupB (pa_cons pe_int (pa_cons pe_int pa_nil))) (pa_cons (pe_op op_add (pv 3) pe_int) pa_nil))) pa_nil))) rfl)
      (pss_cons (ps_asg (pe_tupB (pa_cons (pe_fn F_judged hr rfl (pa_cons (pe_tupB (pa_cons pe_int (pa_cons pe_int pa_nil))) (pa_cons (pv 4) pa_nil))) (pa_cons (pe_fn F_judged hr rfl (pa_cons (pe_tupB (pa_cons pe_int (pa_cons pe_int pa_nil))) (pa_cons (pe_lstB (pa_cons pe_int (pa_cons pe_int pa_nil))) pa_nil))) (pa_cons (pe_fn F_times hr rfl (pa_cons (pe_tupB (pa_cons pe_int (pa_cons pe_int pa_nil))) (pa_cons (pv 4) (pa_cons (pv 10) pa_nil)))) pa_nil)))) (pg_tupB (n := 3) rfl (pgs_cons (pg_name (i := 12) sc_law.nd rfl (Or.inr rfl)) (pgs_cons (pg_name (i := 9) sc_law.nd rfl (Or.inr rfl)) (pgs_cons (pg_name (i := 11) sc_law.nd rfl (Or.inr rfl)) pgs_nil)))))
      (pss_cons (ps_set (i := 7) sc_law.nd rfl (Or.inl rfl) (pe_lstB (pa_cons (pe_lam (T := tabsT c) B.b0 rfl (List.Mem.head _) T.tu_law rfl (NdefX.ndef_free (sc := defScope s_law) (fr := []) (by decide +kernel))) (pa_cons (pe_lam (T := tabsT c) B.b0 rfl (List.Mem.head _) T.tu_law rfl (NdefX.ndef_free (sc := defScope s_law) (fr := []) (by decide +kernel))) pa_nil))))
      (pss_cons (ps_set (i := 7) sc_law.nd rfl (Or.inl rfl) (pe_op op_catB (pv 7) (pe_lstB (pa_cons (pe_lam (T := tabsT c) B.b0 rfl (List.Mem.head _) T.tu_law rfl (NdefX.ndef_free (sc := defScope s_law) (fr := []) (by decide +kernel))) (pa_cons (pe_lam (T := tabsT c) B.b0 rfl (List.Mem.head _) T.tu_law rfl (NdefX.ndef_free (sc := defScope s_law) (fr := []) (by decide +kernel))) pa_nil)))))
      (pss_cons (ps_set (i := 7) sc_law.nd rfl (Or.inl rfl) (pe_op op_catB (pv 7) (pe_lstB (pa_cons (pe_lam (T := tabsT c) B.b0 rfl (List.Mem.head _) T.tu_law rfl (NdefX.ndef_free (sc := defScope s_law) (fr := []) (by decide +kernel))) pa_nil))))
      (pss_cons (ps_set (i := 7) sc_law.nd rfl (Or.inl rfl) (pe_op op_catB (pv 7) (pe_lstB (pa_cons (pe_lam (T := tabsT c) B.b0 rfl (List.Mem.head _) T.tu_law rfl (NdefX.ndef_free (sc := defScope s_law) (fr := []) (by decide +kernel))) pa_nil))))
      (pss_cons (ps_if (PW.pt (pw_or (pt_not (pt_val (pe_fnBG (fr := ["_law_both", "_law_broken", "_law_factor", "_law_many", "_law_whole"]) (js := [8, 9, 10, 11, 12]) F_law_doors_right hr gd (fun _ => rfl) (caps_all (show ∀ y ∈ (["_law_both", "_law_broken", "_law_factor", "_law_many", "_law_whole"] : List Str), (defScope s_law).names.lookup y = some NameKind.cell ∨ (defScope s_law).names.lookup y = some NameKind.free by decide +kernel) rfl) rfl (pa_cons (pv 7) (pa_cons (pe_lstB (pa_cons (pv 4) pa_nil)) (pa_cons (pe_lstB (pa_cons (pv 5) pa_nil)) pa_nil)))))) (pw_or1 (pt_not (pt_val (pe_fnBG (fr := ["_law_both", "_law_broken", "_law_factor", "_law_many", "_law_whole"]) (js := [8, 9, 10, 11, 12]) F_law_doors_right hr gd (fun _ => rfl) (caps_all (show ∀ y ∈ (["_law_both", "_law_broken", "_law_factor", "_law_many", "_law_whole"] : List Str), (defScope s_law).names.lookup y = some NameKind.cell ∨ (defScope s_law).names.lookup y = some NameKind.free by decide +kernel) rfl) rfl (pa_cons (pv 7) (pa_cons (pe_lstB (pa_cons (pv 5) pa_nil)) (pa_cons (pe_lstB (pa_cons (pv 6) pa_nil)) pa_nil))))))))) (pss_one (ps_ret pe_bl)) pss_nil)
      (pss_cons (ps_set (i := 8) sc_law.nd rfl (Or.inr rfl) (pe_fn F_added hr rfl (pa_cons (pe_tupB (pa_cons pe_int (pa_cons pe_int pa_nil))) (pa_cons (pv 4) (pa_cons (pv 5) pa_nil)))))
      (pss_cons (ps_set (i := 7) sc_law.nd rfl (Or.inl rfl) (pe_lstB (pa_cons (pe_lam (T := tabsT c) B.b0 rfl (List.Mem.head _) T.tu_law rfl (NdefX.ndef_free (sc := defScope s_law) (fr := []) (by decide +kernel))) (pa_cons (pe_lam (T := tabsT c) B.b0 rfl (List.Mem.head _) T.tu_law rfl (NdefX.ndef_free (sc := defScope s_law) (fr := []) (by decide +kernel))) pa_nil))))
      (pss_cons (ps_set (i := 7) sc_law.nd rfl (Or.inl rfl) (pe_op op_catB (pv 7) (pe_lstB (pa_cons (pe_lam (T := tabsT c) B.b0 rfl (List.Mem.head _) T.tu_law rfl (NdefX.ndef_free (sc := defScope s_law) (fr := []) (by decide +kernel))) pa_nil))))
      (pss_one (ps_if (PW.pt (pw_or (pt_not (pt_val (pe_fnBG (fr := ["_law_both", "_law_broken", "_law_factor", "_law_many", "_law_whole"]) (js := [8, 9, 10, 11, 12]) F_law_doors_right hr gd (fun _ => rfl) (caps_all (show ∀ y ∈ (["_law_both", "_law_broken", "_law_factor", "_law_many", "_law_whole"] : List Str), (defScope s_law).names.lookup y = some NameKind.cell ∨ (defScope s_law).names.lookup y = some NameKind.free by decide +kernel) rfl) rfl (pa_cons (pv 7) (pa_cons (pe_lstB (pa_cons (pv 4) (pa_cons (pv 5) pa_nil))) (pa_cons (pe_lstB (pa_cons (pv 4) (pa_cons (pv 6) pa_nil))) pa_nil)))))) (pw_or1 (pt_not (pt_val (pe_fnBG (fr := ["_law_both", "_law_broken", "_law_factor", "_law_many", "_law_whole"]) (js := [8, 9, 10, 11, 12]) F_law_doors_right hr gd (fun _ => rfl) (caps_all (show ∀ y ∈ (["_law_both", "_law_broken", "_law_factor", "_law_many", "_law_whole"] : List Str), (defScope s_law).names.lookup y = some NameKind.cell ∨ (defScope s_law).names.lookup y = some NameKind.free by decide +kernel) rfl) rfl (pa_cons (pv 7) (pa_cons (pe_lstB (pa_cons (pv 6) (pa_cons (pv 5) pa_nil))) (pa_cons (pe_lstB (pa_cons (pv 4) (pa_cons (pv 5) pa_nil))) pa_nil))))))))) (pss_one (ps_ret pe_bl)) pss_nil)))))))))))))))
      (pss_one (ps_ret pe_bl))), ?_⟩
    repeat (first | walk_at "s1" | intro _ _ _)
    refine forM it_range (fun i σ H' => ∃ o1 o2 o3 o4 o5 o6 o7 o8 o9 o10 o11 o12, σ = [some (.ref a), o1, o2, o3, o4, o5, o6, o7, o8, o9, o10, o11, o12] ∧ SN H' H ∧ TBS (tabsT c) H') ⟨_, _, _, _, _, _, _, _, _, _, _, _, rfl, snx, inferInstance⟩ (fun _ _ _ _ => trivial) ?_ ?_
    · rintro i v σ H1 H1x hi ⟨o1, o2, o3, o4, o5, o6, o7, o8, o9, o10, o11, o12, rfl, s1, tb1⟩ ⟨rfl, rfl⟩
      repeat (first | walk_at "s1" | intro _ _ _)
      refine go_law_cell_at (by omega) fun cc => ?_
      repeat (first | walk_at "s1" | intro _ _ _)
      refine go_law_number (bd_s (by decide)) (by omega) (by omega) (by decide) fun r H2 r0 r1 s2 => ?_
      repeat (first | walk_at "s1" | intro _ _ _)
      refine go_law_number (bd_s (by decide)) (by omega) (by omega) (by decide) fun f H3 f0 f1 s3 => ?_
      repeat (first | walk_at "s1" | intro _ _ _)
      have l1 := low_row (n := 5 + r + 40) (by omega) (by omega)
      have l2 := low_row (n := 5 + r) (by omega) (by omega)
      have l3 := low_row (n := 5 + r + 3) (by omega) (by omega)
      have e1 := rdo_row gB.b1 gB.ba (5 + r + 40) (by omega)
      have e2 := rdo_row gB.b1 gB.ba (5 + r) (by omega)
      have u1 := figs_of (row_fig gB.b1 gB.ba (5 + r + 40) (by omega))
      have u2 := figs_of (row_fig gB.b1 gB.ba (5 + r) (by omega))
      have ml := mul_len gB (f := f) (n := 5 + r + 40) f0 (by omega) (by omega)
      have al := add_len gB (n := 5 + r + 40) (m := 5 + r) (by omega) (by omega)
      refine go_written gB (by omega) (bd_s (by omega)) (by omega) ?_
      intro p1 Hp1 sp1 fp1 op1
      repeat (first | walk_at "s1" | intro _ _ _)
      refine go_written gB (by omega) (bd_s (by omega)) (by omega) ?_
      intro p2 Hp2 sp2 fp2 op2
      repeat (first | walk_at "s1" | intro _ _ _)
      refine go_written gB (by omega) (bd_s (by omega)) (by omega) ?_
      intro p3 Hp3 sp3 fp3 op3
      repeat (first | walk_at "s1" | intro _ _ _)
      refine go_judged gB u1 (by omega) (fun n' hn' dx => ?_) (fun hno => by rw [e1] at hno; cases hno)
      have en : n' = 5 + r + 40 := by rw [e1] at hn'; exact (Option.some.inj hn').symm
      subst en
      intro jw Hw sw fw ow
      repeat (first | walk_at "s1" | intro _ _ _)
      refine go_judged (a := 3) (b := 2) (ns := [1, 1]) gB (by decide) (by decide) (fun n' hn' dx => absurd hn' (by rw [show rdo 3 2 0 [1, 1] = none by decide]; exact fun z => by cases z)) (fun hno dy => ?_)
      rw [show readF 3 2 0 0 [1, 1] = (1, 0) by decide]
      intro jb Hb sb fb ob
      repeat (first | walk_at "s1" | intro _ _ _)
      refine go_times gB u1 (by omega) e1 f0 (by omega) ?_
      intro Hm xm dm mr1 mr2 sm fm gm1 gm2 a1 a2 a3 a4 a5 a6 om om1 om2
      repeat (first | walk_at "s1" | intro _ _ _)
      rename_i pAA HAA sAA fAA oAA pLA HLA sLA fLA oLA pTA HTA sTA fTA oTA
      refine doors_key (P := P) (w := w) (K := K) (mg := mg) (two := false) (H := HTA) oAA ?_ (fun key => ?_)
      · intro base' C H9 sx9 v mv
        have sm9 : SM H9 HTA := ⟨sx9.s⟩
        simp only [List.cons_append, List.nil_append, List.mem_cons, List.not_mem_nil, or_false] at mv
        rcases mv with rfl | rfl | rfl | rfl | rfl | rfl
        · refine AskOk.mk (fun _ => .list [.bool true, .bool true]) ((fun _ => True)) (fun _ _ _ _ => trivial) trivial ?_
          refine lamPG_of (k := 12) (N := ["_law_some"]) (ps := ["_law_some"]) (fr := []) (ws := []) (by refine NdefX.nscope_by ?_; dsimp only [mkL]; decide +kernel) (cells0 C (by decide +kernel)) (fun _ _ us hl => match us, hl with | [_], _ => rfl) (fun vs H Q E h => by obtain ⟨p, ws, rfl, _⟩ := h; rfl) (fun A outer s H vs Q E hr gd h => ?_)
          obtain ⟨p, ws, rfl, ⟨xs, op, fx⟩, ⟨n, m, m0, mn, n9, ew⟩, hcap, told⟩ := h
          have ew : ws = [n] := ew
          subst ew
          obtain ⟨q1, rfl, oq1⟩ : ∃ q1 : Addr, xs = [.ref q1] ∧ OB H q1 (.lst ((row 3 2 n).map V.int)) := by
            cases fx with
            | cons h1 r =>
              cases r
              obtain ⟨q1, rfl, o1⟩ := h1
              exact ⟨q1, rfl, o1⟩
          clear fx
          have n0 : 0 ≤ n := by omega
          have rl := (low_row n0 n9).1
          have rf := row_fig gB.b1 gB.ba n n0
          have rff := figs_of rf
          have rr := rdo_row gB.b1 gB.ba n n0
          have F_law_judged := ok_law_judged (P := P) (w := w) (base := base') T
          refine ⟨_, (pe_fn F_law_judged hr rfl (pa_cons (pe_ix ix_listB (pv 0) pe_int (fun _ _ => rfl)) pa_nil)), ?_⟩
          walk_at "go"
          refine go_law_judged oq1 n0 n9 ?_
          exact told
        · refine AskOk.mk (fun ws => .list [.tuple [.int (ws.getD 0 0), .int 1]]) ((fun _ => True)) (fun _ _ _ _ => trivial) trivial ?_
          refine lamPG_of (k := 12) (N := ["_law_this"]) (ps := ["_law_this"]) (fr := []) (ws := []) (by refine NdefX.nscope_by ?_; dsimp only [mkL]; decide +kernel) (cells0 C (by decide +kernel)) (fun _ _ us hl => match us, hl with | [_], _ => rfl) (fun vs H Q E h => by obtain ⟨p, ws, rfl, _⟩ := h; rfl) (fun A outer s H vs Q E hr gd h => ?_)
          obtain ⟨p, ws, rfl, ⟨xs, op, fx⟩, ⟨n, m, m0, mn, n9, ew⟩, hcap, told⟩ := h
          have ew : ws = [n] := ew
          subst ew
          obtain ⟨q1, rfl, oq1⟩ : ∃ q1 : Addr, xs = [.ref q1] ∧ OB H q1 (.lst ((row 3 2 n).map V.int)) := by
            cases fx with
            | cons h1 r =>
              cases r
              obtain ⟨q1, rfl, o1⟩ := h1
              exact ⟨q1, rfl, o1⟩
          clear fx
          have n0 : 0 ≤ n := by omega
          have rl := (low_row n0 n9).1
          have rf := row_fig gB.b1 gB.ba n n0
          have rff := figs_of rf
          have rr := rdo_row gB.b1 gB.ba n n0
          have F_worth := ok_worth (P := P) (w := w) (base := base') T
          have F_law_two := ok_law_two (P := P) (w := w) (base := base') T
          refine ⟨_, (pe_fn F_law_two hr rfl (pa_cons (pe_lstB (pa_cons (pe_fn F_worth hr rfl (pa_cons (pe_tupB (pa_cons pe_int (pa_cons pe_int pa_nil))) (pa_cons (pe_ix ix_listB (pv 0) pe_int (fun _ _ => rfl)) pa_nil))) pa_nil)) pa_nil)), ?_⟩
          have told : Told K Q (.list [.tuple [.int n, .int 1]]) H := told
          walk_at "go"
          rename_i t1 Ht1 st1 ft1 ot1
          refine go_worth gB rff (by omega) ?_
          rw [worth_whole gB rr]
          intro pw Hw sw fw ow
          
          have ow' : OB Hw pw (.tup [.int n, .int 1]) := ow
          clear ow
          walk_at "go"
          rename_i pl HL sL fL oL
          refine go_law_two ?_
          intro pt HT sT fT oT
          have oL' : OB HT pl (.lst [.ref pw]) := inferInstance
          have ow2 : OB HT pw (.tup [.int n, .int 1]) := inferInstance
          have npw : NE pl pw := inferInstance
          exact told pt (.ref pl) (.ref pl) (fun b => b = pl ∨ b = pw) HT smx oT (show_lst oL' (.cons (.tup ow2.st (.cons (.int n) (.cons (.int _) .nil))) .nil) (by simp) (fun d hd => by rw [List.mem_singleton.mp hd]; exact leaf_pair (by omega) (by omega))) (Spl.one oL' (fun e => npw.h e) (Spl.atomsT ow2 (by simp) (by simp [Atm]))) (fun b e => by
            rcases e with e | e <;> rw [e]
            · exact (frx (M := Hw) : FR0 H pl).h
            · exact (frx (M := Ht1) : FR0 H pw).h)
        · refine AskOk.mk (fun ws => .list [.tuple [.int (ws.getD 0 0), .int (3 ^ (row 3 2 (ws.getD 0 0)).length)]]) ((fun _ => True)) (fun _ _ _ _ => trivial) trivial ?_
          refine lamPG_of (k := 12) (N := ["_law_some"]) (ps := ["_law_some"]) (fr := []) (ws := []) (by refine NdefX.nscope_by ?_; dsimp only [mkL]; decide +kernel) (cells0 C (by decide +kernel)) (fun _ _ us hl => match us, hl with | [_], _ => rfl) (fun vs H Q E h => by obtain ⟨p, ws, rfl, _⟩ := h; rfl) (fun A outer s H vs Q E hr gd h => ?_)
          obtain ⟨p, ws, rfl, ⟨xs, op, fx⟩, ⟨n, m, m0, mn, n9, ew⟩, hcap, told⟩ := h
          have ew : ws = [n] := ew
          subst ew
          obtain ⟨q1, rfl, oq1⟩ : ∃ q1 : Addr, xs = [.ref q1] ∧ OB H q1 (.lst ((row 3 2 n).map V.int)) := by
            cases fx with
            | cons h1 r =>
              cases r
              obtain ⟨q1, rfl, o1⟩ := h1
              exact ⟨q1, rfl, o1⟩
          clear fx
          have n0 : 0 ≤ n := by omega
          have rl := (low_row n0 n9).1
          have rf := row_fig gB.b1 gB.ba n n0
          have rff := figs_of rf
          have rr := rdo_row gB.b1 gB.ba n n0
          have F_ending := ok_ending (P := P) (w := w) (base := base') T
          have F_law_two := ok_law_two (P := P) (w := w) (base := base') T
          refine ⟨_, (pe_fn F_law_two hr rfl (pa_cons (pe_lstB (pa_cons (pe_fn F_ending hr rfl (pa_cons (pe_tupB (pa_cons pe_int (pa_cons pe_int pa_nil))) (pa_cons (pe_ix ix_listB (pv 0) pe_int (fun _ _ => rfl)) pa_nil))) pa_nil)) pa_nil)), ?_⟩
          have told : Told K Q (.list [.tuple [.int n, .int (3 ^ (row 3 2 n).length)]]) H := told
          walk_at "go"
          rename_i t1 Ht1 st1 ft1 ot1
          refine go_ending gB rff (by omega) fun f' z0 z1 hf => ?_
          have lr := low_row n0 n9
          have ef : f' = n := end_only gB (hf.trans lr.2.1.symm) z0 z1 n0 lr.2.2.1
          rw [ef]
          clear ef hf z0 z1
          have p0 : 0 < (3 : Int) ^ (row 3 2 n).length := Int.pow_pos (by decide)
          have p1 := lr.2.2.2
          clear lr
          generalize (3 : Int) ^ (row 3 2 n).length = st at *
          intro pw Hw sw fw ow
          
          have ow' : OB Hw pw (.tup [.int n, .int st]) := ow
          clear ow
          walk_at "go"
          rename_i pl HL sL fL oL
          refine go_law_two ?_
          intro pt HT sT fT oT
          have oL' : OB HT pl (.lst [.ref pw]) := inferInstance
          have ow2 : OB HT pw (.tup [.int n, .int st]) := inferInstance
          have npw : NE pl pw := inferInstance
          exact told pt (.ref pl) (.ref pl) (fun b => b = pl ∨ b = pw) HT smx oT (show_lst oL' (.cons (.tup ow2.st (.cons (.int n) (.cons (.int _) .nil))) .nil) (by simp) (fun d hd => by rw [List.mem_singleton.mp hd]; exact leaf_pair (by omega) (by omega))) (Spl.one oL' (fun e => npw.h e) (Spl.atomsT ow2 (by simp) (by simp [Atm]))) (fun b e => by
            rcases e with e | e <;> rw [e]
            · exact (frx (M := Hw) : FR0 H pl).h
            · exact (frx (M := Ht1) : FR0 H pw).h)
        · refine AskOk.mk (fun ws => .list [.str (PyData.shown (dI (row 3 2 (f * ws.getD 0 0)))), .bool true]) ((fun _ => True)) (fun _ _ _ _ => trivial) trivial ?_
          refine lamPG_of (k := 12) (N := ["_law_this", "_law_factor"]) (ps := ["_law_this"]) (fr := ["_law_factor"]) (ws := [some (.int f)]) (by refine NdefX.nscope_by ?_; dsimp only [mkL]; decide +kernel) (cells1 C 2 (by decide +kernel) (by decide +kernel) rfl rfl ) (fun _ _ us hl => match us, hl with | [_], _ => rfl) (fun vs H Q E h => by obtain ⟨p, ws, rfl, _⟩ := h; rfl) (fun A outer s H vs Q E hr gd h => ?_)
          obtain ⟨p, ws, rfl, ⟨xs, op, fx⟩, ⟨n, m, m0, mn, n9, ew⟩, hcap, told⟩ := h
          have ew : ws = [n] := ew
          subst ew
          obtain ⟨q1, rfl, oq1⟩ : ∃ q1 : Addr, xs = [.ref q1] ∧ OB H q1 (.lst ((row 3 2 n).map V.int)) := by
            cases fx with
            | cons h1 r =>
              cases r
              obtain ⟨q1, rfl, o1⟩ := h1
              exact ⟨q1, rfl, o1⟩
          clear fx
          have n0 : 0 ≤ n := by omega
          have rl := (low_row n0 n9).1
          have rf := row_fig gB.b1 gB.ba n n0
          have rff := figs_of rf
          have rr := rdo_row gB.b1 gB.ba n n0
          have F_law_times := ok_law_times (P := P) (w := w) (base := base') T
          refine ⟨_, (pe_fnG F_law_times hr gd rfl (pa_cons (pe_ix ix_listB (pv 0) pe_int (fun _ _ => rfl)) (pa_cons (pv 1) pa_nil))), ?_⟩
          walk_at "go"
          refine go_law_times oq1 n0 n9 f0 (by omega) ?_
          exact told
        · refine AskOk.mk (fun ws => .list [.bool (decide (ws.getD 0 0 = 5 + r + 40 ∧ (-1 : Int) = -1)), .bool (decide (0 ≤ (0 : Int)) && decide (ws.getD 0 0 = 1 ∧ (-1 : Int) = 0))]) (fun H => OB H jw (.ins (c 1) dx [("number", .int (5 + r + 40))]) ∧ OB H jb (.ins (c 2) dy [("place", .int 0), ("left", .int 1)])) (fun _ _ s h => ⟨OB.mono' s h.1, OB.mono' s h.2⟩) ⟨inferInstance, inferInstance⟩ ?_
          refine lamPG_of (k := 12) (N := ["_law_some", "_law_whole", "_law_broken"]) (ps := ["_law_some"]) (fr := ["_law_whole", "_law_broken"]) (ws := [some (.ref jw), some (.ref jb)]) (by refine NdefX.nscope_by ?_; dsimp only [mkL]; decide +kernel) (cells2 C 4 1 (by decide +kernel) (by decide +kernel) (by decide +kernel) rfl rfl rfl rfl ) (fun _ _ us hl => match us, hl with | [_], _ => rfl) (fun vs H Q E h => by obtain ⟨p, ws, rfl, _⟩ := h; rfl) (fun A outer s H vs Q E hr gd h => ?_)
          obtain ⟨p, ws, rfl, ⟨xs, op, fx⟩, ⟨n, m, m0, mn, n9, ew⟩, hcap, told⟩ := h
          have ew : ws = [n] := ew
          subst ew
          obtain ⟨q1, rfl, oq1⟩ : ∃ q1 : Addr, xs = [.ref q1] ∧ OB H q1 (.lst ((row 3 2 n).map V.int)) := by
            cases fx with
            | cons h1 r =>
              cases r
              obtain ⟨q1, rfl, o1⟩ := h1
              exact ⟨q1, rfl, o1⟩
          clear fx
          have n0 : 0 ≤ n := by omega
          have rl := (low_row n0 n9).1
          have rf := row_fig gB.b1 gB.ba n n0
          have rff := figs_of rf
          have rr := rdo_row gB.b1 gB.ba n n0
          have F_law_two := ok_law_two (P := P) (w := w) (base := base') T
          obtain ⟨_, _, G_Writes, b_Writes, Mm_Writes⟩ := (okm_Writes (P := P) (w := w) (base := base') T).ex
          obtain ⟨_, _, G_Breaks, b_Breaks, Mm_Breaks⟩ := (okm_Breaks (P := P) (w := w) (base := base') T).ex
          refine ⟨_, (pe_fn F_law_two hr rfl (pa_cons (pe_lstB (pa_cons (mt_of (pe_meth (pe_up (pv 1)) T.o_Writes.cl Mm_Writes G_Writes (hr.mono (by decide)) b_Writes .nil pass0 (pa_cons (pe_tupB (pa_cons pe_int (pa_cons pe_int pa_nil))) (pa_cons (pe_ix ix_listB (pv 0) pe_int (fun _ _ => rfl)) pa_nil)))) (pa_cons (mt_of (pe_meth (pe_up (pv 2)) T.o_Breaks.cl Mm_Breaks G_Breaks (hr.mono (by decide)) b_Breaks .nil pass0 (pa_cons (pe_tupB (pa_cons pe_int (pa_cons pe_int pa_nil))) (pa_cons (pe_ix ix_listB (pv 0) pe_int (fun _ _ => rfl)) pa_nil)))) pa_nil))) pa_nil)), ?_⟩
          obtain ⟨cw, cb⟩ := hcap
          walk_at "go"
          refine go_Writes_shows (by decide) (by decide) (by decide) (by decide) (by omega) (fun x hx => by have := rf x hx; omega) fun H2 s2 => ?_
          rw [readF_ok _ 0 n 0 rr]
          walk_at "go"
          rename_i t3 Ht3 st3 ft3 ot3
          refine go_Breaks_shows (by decide) (by decide) (by decide) (by decide) (by omega) (fun x hx => by have := rf x hx; omega) fun H3 s3 => ?_
          rw [readF_ok _ 0 n 0 rr]
          walk_at "go"
          
          rename_i pl HL sL fL oL
          refine go_law_two ?_
          intro pt HT sT fT oT
          have oL' : OB HT pl (.lst [.bl _, .bl _]) := inferInstance
          exact told pt (.ref pl) (.ref pl) (fun b => b = pl) HT smx oT (show_lst oL' (.cons (.bl _) (.cons (.bl _) .nil)) (by simp) (leaf_b2 _ _)) (Spl.atoms oL' (by simp) (atm_b2 _ _)) (fun b e => by rw [e]; exact ((frx (M := H3)) : FR0 H pl).h)
        · refine AskOk.mk (fun ws => .list [.bool (decide (row 3 2 (f * (5 + r + 40)) = row 3 2 (f * ws.getD 0 0) ∧ mulC 3 2 f (5 + r + 40) = mulC 3 2 f (ws.getD 0 0)))]) (fun H => OB H xm (.ins (c 4) dm [("row", .ref mr1), ("carries", .ref mr2)]) ∧ OB H mr1 (.lst ((row 3 2 (f * (5 + r + 40))).map V.int)) ∧ OB H mr2 (.lst ((mulC 3 2 f (5 + r + 40)).map V.int))) (fun _ _ s h => ⟨OB.mono' s h.1, OB.mono' s h.2.1, OB.mono' s h.2.2⟩) ⟨inferInstance, inferInstance, inferInstance⟩ ?_
          refine lamPG_of (k := 12) (N := ["_law_some", "_law_many", "_law_factor"]) (ps := ["_law_some"]) (fr := ["_law_many", "_law_factor"]) (ws := [some (.ref xm), some (.int f)]) (by refine NdefX.nscope_by ?_; dsimp only [mkL]; decide +kernel) (cells2 C 3 2 (by decide +kernel) (by decide +kernel) (by decide +kernel) rfl rfl rfl rfl ) (fun _ _ us hl => match us, hl with | [_], _ => rfl) (fun vs H Q E h => by obtain ⟨p, ws, rfl, _⟩ := h; rfl) (fun A outer s H vs Q E hr gd h => ?_)
          obtain ⟨p, ws, rfl, ⟨xs, op, fx⟩, ⟨n, m, m0, mn, n9, ew⟩, hcap, told⟩ := h
          have ew : ws = [n] := ew
          subst ew
          obtain ⟨q1, rfl, oq1⟩ : ∃ q1 : Addr, xs = [.ref q1] ∧ OB H q1 (.lst ((row 3 2 n).map V.int)) := by
            cases fx with
            | cons h1 r =>
              cases r
              obtain ⟨q1, rfl, o1⟩ := h1
              exact ⟨q1, rfl, o1⟩
          clear fx
          have n0 : 0 ≤ n := by omega
          have rl := (low_row n0 n9).1
          have rf := row_fig gB.b1 gB.ba n n0
          have rff := figs_of rf
          have rr := rdo_row gB.b1 gB.ba n n0
          have F_law_two := ok_law_two (P := P) (w := w) (base := base') T
          obtain ⟨_, _, G_Times, b_Times, Mm_Times⟩ := (okm_Times (P := P) (w := w) (base := base') T).ex
          refine ⟨_, (pe_fn F_law_two hr rfl (pa_cons (pe_lstB (pa_cons (mt_of (pe_meth (pe_up (pv 1)) T.o_Times.cl Mm_Times G_Times (hr.mono (by decide)) b_Times .nil pass0 (pa_cons (pe_tupB (pa_cons pe_int (pa_cons pe_int pa_nil))) (pa_cons (pe_ix ix_listB (pv 0) pe_int (fun _ _ => rfl)) (pa_cons (pv 2) pa_nil))))) pa_nil)) pa_nil)), ?_⟩
          obtain ⟨cm, cm1, cm2⟩ := hcap
          walk_at "go"
          refine go_Times_shows gB rff (by omega) rr f0 (by omega) (by omega) (by omega) fun H3 s3 => ?_
          walk_at "go"
          
          rename_i pl HL sL fL oL
          refine go_law_two ?_
          intro pt HT sT fT oT
          have oL' : OB HT pl (.lst [.bl _]) := inferInstance
          exact told pt (.ref pl) (.ref pl) (fun b => b = pl) HT smx oT (show_lst oL' (.cons (.bl _) .nil) (by simp) (leaf_b1 _)) (Spl.atoms oL' (by simp) (atm_b1 _)) (fun b e => by rw [e]; exact ((frx (M := H3)) : FR0 H pl).h)
      intro base1A C1A
      refine go_law_doors_right false [5 + r + 40] [5 + r] (by simp) ⟨[.ref p1], inferInstance, .cons ⟨p1, rfl, inferInstance⟩ (.nil)⟩ ⟨[.ref p2], inferInstance, .cons ⟨p2, rfl, inferInstance⟩ (.nil)⟩ ⟨5 + r + 40, 0, by omega, by omega, by omega, rfl⟩ ⟨5 + r, 0, by omega, by omega, by omega, rfl⟩ (key base1A C1A _ inferInstance) fun Hd1A sd1A => ?_
      repeat (first | walk_at "s1" | intro _ _ _)
      intro base2A C2A
      refine go_law_doors_right false [5 + r] [5 + r + 3] (by simp) ⟨[.ref p2], inferInstance, .cons ⟨p2, rfl, inferInstance⟩ (.nil)⟩ ⟨[.ref p3], inferInstance, .cons ⟨p3, rfl, inferInstance⟩ (.nil)⟩ ⟨5 + r, 0, by omega, by omega, by omega, rfl⟩ ⟨5 + r + 3, 0, by omega, by omega, by omega, rfl⟩ (key base2A C2A _ inferInstance) fun Hd2A sd2A => ?_
      repeat (first | walk_at "s1" | intro _ _ _)
      refine go_added gB u1 (by omega) e1 u2 (by omega) e2 ?_
      intro Hv xb db br1 br2 sv fv gv1 gv2 v1 v2 v3 v4 v5 v6 ov ov1 ov2
      repeat (first | walk_at "s1" | intro _ _ _)
      rename_i pAB HAB sAB fAB oAB pLB HLB sLB fLB oLB pTB HTB sTB fTB oTB
      refine doors_key (P := P) (w := w) (K := K) (mg := mg) (two := true) (H := HTB) oAB ?_ (fun key => ?_)
      · intro base' C H9 sx9 v mv
        have sm9 : SM H9 HTB := ⟨sx9.s⟩
        simp only [List.cons_append, List.nil_append, List.mem_cons, List.not_mem_nil, or_false] at mv
        rcases mv with rfl | rfl | rfl
        · refine AskOk.mk (fun ws => .list [.str (PyData.shown (dI (row 3 2 (ws.getD 0 0 + ws.getD 1 0)))), .bool true]) ((fun _ => True)) (fun _ _ _ _ => trivial) trivial ?_
          refine lamPG_of (k := 12) (N := ["_law_some"]) (ps := ["_law_some"]) (fr := []) (ws := []) (by refine NdefX.nscope_by ?_; dsimp only [mkL]; decide +kernel) (cells0 C (by decide +kernel)) (fun _ _ us hl => match us, hl with | [_], _ => rfl) (fun vs H Q E h => by obtain ⟨p, ws, rfl, _⟩ := h; rfl) (fun A outer s H vs Q E hr gd h => ?_)
          obtain ⟨p, ws, rfl, ⟨xs, op, fx⟩, ⟨n, m, m0, mn, n9, ew⟩, hcap, told⟩ := h
          have ew : ws = [n, m] := ew
          subst ew
          obtain ⟨q1, q2, rfl, oq1, oq2⟩ : ∃ q1 q2 : Addr, xs = [.ref q1, .ref q2] ∧ OB H q1 (.lst ((row 3 2 n).map V.int)) ∧ OB H q2 (.lst ((row 3 2 m).map V.int)) := by
            cases fx with
            | cons h1 r =>
              cases r with
              | cons h2 r =>
                cases r
                obtain ⟨q1, rfl, o1⟩ := h1
                obtain ⟨q2, rfl, o2⟩ := h2
                exact ⟨q1, q2, rfl, o1, o2⟩
          clear fx
          have n0 : 0 ≤ n := by omega
          have rlm := (low_row m0 (by omega)).1
          have rffm := figs_of (row_fig gB.b1 gB.ba m m0)
          have rrm := rdo_row gB.b1 gB.ba m m0
          have rl := (low_row n0 n9).1
          have rf := row_fig gB.b1 gB.ba n n0
          have rff := figs_of rf
          have rr := rdo_row gB.b1 gB.ba n n0
          have F_law_added := ok_law_added (P := P) (w := w) (base := base') T
          refine ⟨_, (pe_fnG F_law_added hr gd rfl (pa_cons (pe_ix ix_listB (pv 0) pe_int (fun _ _ => rfl)) (pa_cons (pe_ix ix_listB (pv 0) pe_int (fun _ _ => rfl)) pa_nil))), ?_⟩
          walk_at "go"
          refine go_law_added oq1 oq2 n0 n9 m0 (by omega) ?_
          exact told
        · refine AskOk.mk (fun ws => dI (row 3 2 (ws.getD 0 0 - ws.getD 1 0))) ((fun _ => True)) (fun _ _ _ _ => trivial) trivial ?_
          refine lamPG_of (k := 12) (N := ["_law_this"]) (ps := ["_law_this"]) (fr := []) (ws := []) (by refine NdefX.nscope_by ?_; dsimp only [mkL]; decide +kernel) (cells0 C (by decide +kernel)) (fun _ _ us hl => match us, hl with | [_], _ => rfl) (fun vs H Q E h => by obtain ⟨p, ws, rfl, _⟩ := h; rfl) (fun A outer s H vs Q E hr gd h => ?_)
          obtain ⟨p, ws, rfl, ⟨xs, op, fx⟩, ⟨n, m, m0, mn, n9, ew⟩, hcap, told⟩ := h
          have ew : ws = [n, m] := ew
          subst ew
          obtain ⟨q1, q2, rfl, oq1, oq2⟩ : ∃ q1 q2 : Addr, xs = [.ref q1, .ref q2] ∧ OB H q1 (.lst ((row 3 2 n).map V.int)) ∧ OB H q2 (.lst ((row 3 2 m).map V.int)) := by
            cases fx with
            | cons h1 r =>
              cases r with
              | cons h2 r =>
                cases r
                obtain ⟨q1, rfl, o1⟩ := h1
                obtain ⟨q2, rfl, o2⟩ := h2
                exact ⟨q1, q2, rfl, o1, o2⟩
          clear fx
          have n0 : 0 ≤ n := by omega
          have rlm := (low_row m0 (by omega)).1
          have rffm := figs_of (row_fig gB.b1 gB.ba m m0)
          have rrm := rdo_row gB.b1 gB.ba m m0
          have rl := (low_row n0 n9).1
          have rf := row_fig gB.b1 gB.ba n n0
          have rff := figs_of rf
          have rr := rdo_row gB.b1 gB.ba n n0
          have F_taken := ok_taken (P := P) (w := w) (base := base') T
          have F_law_two := ok_law_two (P := P) (w := w) (base := base') T
          refine ⟨_, (pe_fn F_law_two hr rfl (pa_cons (pe_fn F_taken hr rfl (pa_cons (pe_tupB (pa_cons pe_int (pa_cons pe_int pa_nil))) (pa_cons (pe_ix ix_listB (pv 0) pe_int (fun _ _ => rfl)) (pa_cons (pe_ix ix_listB (pv 0) pe_int (fun _ _ => rfl)) pa_nil)))) pa_nil)), ?_⟩
          have told : Told K Q (dI (row 3 2 (n - m))) H := told
          have lr := low_row (n := n - m) (by omega) (by omega)
          walk_at "go"
          rename_i t1 Ht1 st1 ft1 ot1
          refine go_taken gB rff (by omega) rr rffm (by omega) rrm mn ?_
          intro pw Hw sw fw ow
          walk_at "go"
          refine go_law_two ?_
          intro pt HT sT fT oT
          have ow' : OB HT pw (.lst ((row 3 2 (n - m)).map V.int)) := inferInstance
          exact told pt (.ref pw) (.ref pw) (fun b => b = pw) HT smx oT (show_ints ow' (by omega) (fig_small (by omega))) (Spl.ints ow' (by omega)) (fun b e => by rw [e]; exact (frx (M := Ht1) : FR0 H pw).h)
        · refine AskOk.mk (fun ws => .list [.bool (decide (row 3 2 (5 + r + 40 + (5 + r)) = row 3 2 (ws.getD 0 0 + ws.getD 1 0) ∧ addC 3 2 (5 + r + 40) (5 + r) = addC 3 2 (ws.getD 0 0) (ws.getD 1 0)))]) (fun H => OB H xb (.ins (c 3) db [("row", .ref br1), ("carries", .ref br2)]) ∧ OB H br1 (.lst ((row 3 2 (5 + r + 40 + (5 + r))).map V.int)) ∧ OB H br2 (.lst ((addC 3 2 (5 + r + 40) (5 + r)).map V.int))) (fun _ _ s h => ⟨OB.mono' s h.1, OB.mono' s h.2.1, OB.mono' s h.2.2⟩) ⟨inferInstance, inferInstance, inferInstance⟩ ?_
          refine lamPG_of (k := 12) (N := ["_law_some", "_law_both"]) (ps := ["_law_some"]) (fr := ["_law_both"]) (ws := [some (.ref xb)]) (by refine NdefX.nscope_by ?_; dsimp only [mkL]; decide +kernel) (cells1 C 0 (by decide +kernel) (by decide +kernel) rfl rfl ) (fun _ _ us hl => match us, hl with | [_], _ => rfl) (fun vs H Q E h => by obtain ⟨p, ws, rfl, _⟩ := h; rfl) (fun A outer s H vs Q E hr gd h => ?_)
          obtain ⟨p, ws, rfl, ⟨xs, op, fx⟩, ⟨n, m, m0, mn, n9, ew⟩, hcap, told⟩ := h
          have ew : ws = [n, m] := ew
          subst ew
          obtain ⟨q1, q2, rfl, oq1, oq2⟩ : ∃ q1 q2 : Addr, xs = [.ref q1, .ref q2] ∧ OB H q1 (.lst ((row 3 2 n).map V.int)) ∧ OB H q2 (.lst ((row 3 2 m).map V.int)) := by
            cases fx with
            | cons h1 r =>
              cases r with
              | cons h2 r =>
                cases r
                obtain ⟨q1, rfl, o1⟩ := h1
                obtain ⟨q2, rfl, o2⟩ := h2
                exact ⟨q1, q2, rfl, o1, o2⟩
          clear fx
          have n0 : 0 ≤ n := by omega
          have rlm := (low_row m0 (by omega)).1
          have rffm := figs_of (row_fig gB.b1 gB.ba m m0)
          have rrm := rdo_row gB.b1 gB.ba m m0
          have rl := (low_row n0 n9).1
          have rf := row_fig gB.b1 gB.ba n n0
          have rff := figs_of rf
          have rr := rdo_row gB.b1 gB.ba n n0
          have F_law_two := ok_law_two (P := P) (w := w) (base := base') T
          obtain ⟨_, _, G_Sum, b_Sum, Mm_Sum⟩ := (okm_Sum (P := P) (w := w) (base := base') T).ex
          refine ⟨_, (pe_fn F_law_two hr rfl (pa_cons (pe_lstB (pa_cons (mt_of (pe_meth (pe_up (pv 1)) T.o_Sum.cl Mm_Sum G_Sum (hr.mono (by decide)) b_Sum .nil pass0 (pa_cons (pe_tupB (pa_cons pe_int (pa_cons pe_int pa_nil))) (pa_cons (pe_ix ix_listB (pv 0) pe_int (fun _ _ => rfl)) (pa_cons (pe_ix ix_listB (pv 0) pe_int (fun _ _ => rfl)) pa_nil))))) pa_nil)) pa_nil)), ?_⟩
          obtain ⟨cm, cm1, cm2⟩ := hcap
          walk_at "go"
          refine go_Sum_shows gB rff (by omega) rr rffm (by omega) rrm (by omega) (by omega) fun H3 s3 => ?_
          walk_at "go"
          
          rename_i pl HL sL fL oL
          refine go_law_two ?_
          intro pt HT sT fT oT
          have oL' : OB HT pl (.lst [.bl _]) := inferInstance
          exact told pt (.ref pl) (.ref pl) (fun b => b = pl) HT smx oT (show_lst oL' (.cons (.bl _) .nil) (by simp) (leaf_b1 _)) (Spl.atoms oL' (by simp) (atm_b1 _)) (fun b e => by rw [e]; exact ((frx (M := H3)) : FR0 H pl).h)
      intro base1B C1B
      refine go_law_doors_right true [5 + r + 40, 5 + r] [5 + r + 40, 5 + r + 3] (by simp) ⟨[.ref p1, .ref p2], inferInstance, .cons ⟨p1, rfl, inferInstance⟩ (.cons ⟨p2, rfl, inferInstance⟩ (.nil))⟩ ⟨[.ref p1, .ref p3], inferInstance, .cons ⟨p1, rfl, inferInstance⟩ (.cons ⟨p3, rfl, inferInstance⟩ (.nil))⟩ ⟨5 + r + 40, 5 + r, by omega, by omega, by omega, rfl⟩ ⟨5 + r + 40, 5 + r + 3, by omega, by omega, by omega, rfl⟩ (key base1B C1B _ inferInstance) fun Hd1B sd1B => ?_
      repeat (first | walk_at "s1" | intro _ _ _)
      intro base2B C2B
      refine go_law_doors_right true [5 + r + 3, 5 + r] [5 + r + 40, 5 + r] (by simp) ⟨[.ref p3, .ref p2], inferInstance, .cons ⟨p3, rfl, inferInstance⟩ (.cons ⟨p2, rfl, inferInstance⟩ (.nil))⟩ ⟨[.ref p1, .ref p2], inferInstance, .cons ⟨p1, rfl, inferInstance⟩ (.cons ⟨p2, rfl, inferInstance⟩ (.nil))⟩ ⟨5 + r + 3, 5 + r, by omega, by omega, by omega, rfl⟩ ⟨5 + r + 40, 5 + r, by omega, by omega, by omega, rfl⟩ (key base2B C2B _ inferInstance) fun Hd2B sd2B => ?_
      repeat (first | walk_at "s1" | intro _ _ _)
      exact ⟨_, _, _, _, _, _, _, _, _, _, _, _, rfl, snx, inferInstance⟩
    · rintro σ H1 ⟨o1, o2, o3, o4, o5, o6, o7, o8, o9, o10, o11, o12, rfl, s1, tb1⟩
      repeat (first | walk_at "s1" | intro _ _ _)
      exact q _
end
theorem all_mk {l : PySem.W.OpenLaw} {w : World} {K : PySem.W.Frag} {h : Heap} {mg : Str → Option Value} {fa : Addr} {ts : List Addr} (X : K.In h) (G : h.Ns mainGlobals mg) (hfa : mg "law" = some (.ref fa)) (hts : ∀ P ∈ ts, h.get? P = some (PySem.W.tabObj #[]))
    {od0 an0 : Option Addr} {sl0 : Array (Option Value)} {oc0 kV0 dc0 pm0 cd0 ct0 : Value} {f0 : Addr} (a0 : PySem.W.nsIn K mainGlobals "is_whole" = some (some (.ref f0))) (l0 : K.lookup f0 = some ⟨oc0, od0, .func (PySem.W.fnOf "is_whole" "is_whole" (defArgs s_is_whole) (defBody s_is_whole) (defScope s_is_whole) .none kV0 dc0 pm0 an0 cd0 ct0), sl0⟩) (c0 : PySem.W.codeIn K cd0 "is_whole" = true) (k0 : PySem.W.keepIn K (.ref f0) = true)
    {od1 an1 : Option Addr} {sl1 : Array (Option Value)} {oc1 kV1 dc1 pm1 cd1 ct1 : Value} {f1 : Addr} (a1 : PySem.W.nsIn K mainGlobals "common" = some (some (.ref f1))) (l1 : K.lookup f1 = some ⟨oc1, od1, .func (PySem.W.fnOf "common" "common" (defArgs s_common) (defBody s_common) (defScope s_common) .none kV1 dc1 pm1 an1 cd1 ct1), sl1⟩) (c1 : PySem.W.codeIn K cd1 "common" = true) (k1 : PySem.W.keepIn K (.ref f1) = true)
    {od2 an2 : Option Addr} {sl2 : Array (Option Value)} {oc2 kV2 dc2 pm2 cd2 ct2 : Value} {f2 : Addr} (a2 : PySem.W.nsIn K mainGlobals "check_base" = some (some (.ref f2))) (l2 : K.lookup f2 = some ⟨oc2, od2, .func (PySem.W.fnOf "check_base" "check_base" (defArgs s_check_base) (defBody s_check_base) (defScope s_check_base) .none kV2 dc2 pm2 an2 cd2 ct2), sl2⟩) (c2 : PySem.W.codeIn K cd2 "check_base" = true) (k2 : PySem.W.keepIn K (.ref f2) = true)
    {od3 an3 : Option Addr} {sl3 : Array (Option Value)} {oc3 kV3 dc3 pm3 cd3 ct3 : Value} {f3 : Addr} (a3 : PySem.W.nsIn K mainGlobals "check_number" = some (some (.ref f3))) (l3 : K.lookup f3 = some ⟨oc3, od3, .func (PySem.W.fnOf "check_number" "check_number" (defArgs s_check_number) (defBody s_check_number) (defScope s_check_number) .none kV3 dc3 pm3 an3 cd3 ct3), sl3⟩) (c3 : PySem.W.codeIn K cd3 "check_number" = true) (k3 : PySem.W.keepIn K (.ref f3) = true)
    {od4 an4 : Option Addr} {sl4 : Array (Option Value)} {oc4 kV4 dc4 pm4 cd4 ct4 : Value} {f4 : Addr} (a4 : PySem.W.nsIn K mainGlobals "check_count" = some (some (.ref f4))) (l4 : K.lookup f4 = some ⟨oc4, od4, .func (PySem.W.fnOf "check_count" "check_count" (defArgs s_check_count) (defBody s_check_count) (defScope s_check_count) .none kV4 dc4 pm4 an4 cd4 ct4), sl4⟩) (c4 : PySem.W.codeIn K cd4 "check_count" = true) (k4 : PySem.W.keepIn K (.ref f4) = true)
    {od5 an5 : Option Addr} {sl5 : Array (Option Value)} {oc5 kV5 dc5 pm5 cd5 ct5 : Value} {f5 : Addr} (a5 : PySem.W.nsIn K mainGlobals "parted" = some (some (.ref f5))) (l5 : K.lookup f5 = some ⟨oc5, od5, .func (PySem.W.fnOf "parted" "parted" (defArgs s_parted) (defBody s_parted) (defScope s_parted) .none kV5 dc5 pm5 an5 cd5 ct5), sl5⟩) (c5 : PySem.W.codeIn K cd5 "parted" = true) (k5 : PySem.W.keepIn K (.ref f5) = true)
    {od6 an6 : Option Addr} {sl6 : Array (Option Value)} {oc6 kV6 dc6 pm6 cd6 ct6 : Value} {f6 : Addr} (a6 : PySem.W.nsIn K mainGlobals "are_figures" = some (some (.ref f6))) (l6 : K.lookup f6 = some ⟨oc6, od6, .func (PySem.W.fnOf "are_figures" "are_figures" (defArgs s_are_figures) (defBody s_are_figures) (defScope s_are_figures) .none kV6 dc6 pm6 an6 cd6 ct6), sl6⟩) (c6 : PySem.W.codeIn K cd6 "are_figures" = true) (k6 : PySem.W.keepIn K (.ref f6) = true)
    {od7 an7 : Option Addr} {sl7 : Array (Option Value)} {oc7 kV7 dc7 pm7 cd7 ct7 : Value} {f7 : Addr} (a7 : PySem.W.nsIn K mainGlobals "read" = some (some (.ref f7))) (l7 : K.lookup f7 = some ⟨oc7, od7, .func (PySem.W.fnOf "read" "read" (defArgs s_read) (defBody s_read) (defScope s_read) .none kV7 dc7 pm7 an7 cd7 ct7), sl7⟩) (c7 : PySem.W.codeIn K cd7 "read" = true) (k7 : PySem.W.keepIn K (.ref f7) = true)
    {od8 an8 : Option Addr} {sl8 : Array (Option Value)} {oc8 kV8 dc8 pm8 cd8 ct8 : Value} {f8 : Addr} (a8 : PySem.W.nsIn K mainGlobals "plain" = some (some (.ref f8))) (l8 : K.lookup f8 = some ⟨oc8, od8, .func (PySem.W.fnOf "plain" "plain" (defArgs s_plain) (defBody s_plain) (defScope s_plain) .none kV8 dc8 pm8 an8 cd8 ct8), sl8⟩) (c8 : PySem.W.codeIn K cd8 "plain" = true) (k8 : PySem.W.keepIn K (.ref f8) = true)
    {od9 an9 : Option Addr} {sl9 : Array (Option Value)} {oc9 kV9 dc9 pm9 cd9 ct9 : Value} {f9 : Addr} (a9 : PySem.W.nsIn K mainGlobals "carried" = some (some (.ref f9))) (l9 : K.lookup f9 = some ⟨oc9, od9, .func (PySem.W.fnOf "carried" "carried" (defArgs s_carried) (defBody s_carried) (defScope s_carried) .none kV9 dc9 pm9 an9 cd9 ct9), sl9⟩) (c9 : PySem.W.codeIn K cd9 "carried" = true) (k9 : PySem.W.keepIn K (.ref f9) = true)
    {od10 an10 : Option Addr} {sl10 : Array (Option Value)} {oc10 kV10 dc10 pm10 cd10 ct10 : Value} {f10 : Addr} (a10 : PySem.W.nsIn K mainGlobals "summed" = some (some (.ref f10))) (l10 : K.lookup f10 = some ⟨oc10, od10, .func (PySem.W.fnOf "summed" "summed" (defArgs s_summed) (defBody s_summed) (defScope s_summed) .none kV10 dc10 pm10 an10 cd10 ct10), sl10⟩) (c10 : PySem.W.codeIn K cd10 "summed" = true) (k10 : PySem.W.keepIn K (.ref f10) = true)
    {od11 an11 : Option Addr} {sl11 : Array (Option Value)} {oc11 kV11 dc11 pm11 cd11 ct11 : Value} {f11 : Addr} (a11 : PySem.W.nsIn K mainGlobals "check_row" = some (some (.ref f11))) (l11 : K.lookup f11 = some ⟨oc11, od11, .func (PySem.W.fnOf "check_row" "check_row" (defArgs s_check_row) (defBody s_check_row) (defScope s_check_row) .none kV11 dc11 pm11 an11 cd11 ct11), sl11⟩) (c11 : PySem.W.codeIn K cd11 "check_row" = true) (k11 : PySem.W.keepIn K (.ref f11) = true)
    {od12 an12 : Option Addr} {sl12 : Array (Option Value)} {oc12 kV12 dc12 pm12 cd12 ct12 : Value} {f12 : Addr} (a12 : PySem.W.nsIn K mainGlobals "row_of" = some (some (.ref f12))) (l12 : K.lookup f12 = some ⟨oc12, od12, .func (PySem.W.fnOf "row_of" "row_of" (defArgs s_row_of) (defBody s_row_of) (defScope s_row_of) .none kV12 dc12 pm12 an12 cd12 ct12), sl12⟩) (c12 : PySem.W.codeIn K cd12 "row_of" = true) (k12 : PySem.W.keepIn K (.ref f12) = true)
    {od13 an13 : Option Addr} {sl13 : Array (Option Value)} {oc13 kV13 dc13 pm13 cd13 ct13 : Value} {f13 : Addr} (a13 : PySem.W.nsIn K mainGlobals "written" = some (some (.ref f13))) (l13 : K.lookup f13 = some ⟨oc13, od13, .func (PySem.W.fnOf "written" "written" (defArgs s_written) (defBody s_written) (defScope s_written) .none kV13 dc13 pm13 an13 cd13 ct13), sl13⟩) (c13 : PySem.W.codeIn K cd13 "written" = true) (k13 : PySem.W.keepIn K (.ref f13) = true)
    {od14 an14 : Option Addr} {sl14 : Array (Option Value)} {oc14 kV14 dc14 pm14 cd14 ct14 : Value} {f14 : Addr} (a14 : PySem.W.nsIn K mainGlobals "judged" = some (some (.ref f14))) (l14 : K.lookup f14 = some ⟨oc14, od14, .func (PySem.W.fnOf "judged" "judged" (defArgs s_judged) (defBody s_judged) (defScope s_judged) .none kV14 dc14 pm14 an14 cd14 ct14), sl14⟩) (c14 : PySem.W.codeIn K cd14 "judged" = true) (k14 : PySem.W.keepIn K (.ref f14) = true)
    {od15 an15 : Option Addr} {sl15 : Array (Option Value)} {oc15 kV15 dc15 pm15 cd15 ct15 : Value} {f15 : Addr} (a15 : PySem.W.nsIn K mainGlobals "worth" = some (some (.ref f15))) (l15 : K.lookup f15 = some ⟨oc15, od15, .func (PySem.W.fnOf "worth" "worth" (defArgs s_worth) (defBody s_worth) (defScope s_worth) .none kV15 dc15 pm15 an15 cd15 ct15), sl15⟩) (c15 : PySem.W.codeIn K cd15 "worth" = true) (k15 : PySem.W.keepIn K (.ref f15) = true)
    {od16 an16 : Option Addr} {sl16 : Array (Option Value)} {oc16 kV16 dc16 pm16 cd16 ct16 : Value} {f16 : Addr} (a16 : PySem.W.nsIn K mainGlobals "check_whole" = some (some (.ref f16))) (l16 : K.lookup f16 = some ⟨oc16, od16, .func (PySem.W.fnOf "check_whole" "check_whole" (defArgs s_check_whole) (defBody s_check_whole) (defScope s_check_whole) .none kV16 dc16 pm16 an16 cd16 ct16), sl16⟩) (c16 : PySem.W.codeIn K cd16 "check_whole" = true) (k16 : PySem.W.keepIn K (.ref f16) = true)
    {od17 an17 : Option Addr} {sl17 : Array (Option Value)} {oc17 kV17 dc17 pm17 cd17 ct17 : Value} {f17 : Addr} (a17 : PySem.W.nsIn K mainGlobals "carrying" = some (some (.ref f17))) (l17 : K.lookup f17 = some ⟨oc17, od17, .func (PySem.W.fnOf "carrying" "carrying" (defArgs s_carrying) (defBody s_carrying) (defScope s_carrying) .none kV17 dc17 pm17 an17 cd17 ct17), sl17⟩) (c17 : PySem.W.codeIn K cd17 "carrying" = true) (k17 : PySem.W.keepIn K (.ref f17) = true)
    {od18 an18 : Option Addr} {sl18 : Array (Option Value)} {oc18 kV18 dc18 pm18 cd18 ct18 : Value} {f18 : Addr} (a18 : PySem.W.nsIn K mainGlobals "added" = some (some (.ref f18))) (l18 : K.lookup f18 = some ⟨oc18, od18, .func (PySem.W.fnOf "added" "added" (defArgs s_added) (defBody s_added) (defScope s_added) .none kV18 dc18 pm18 an18 cd18 ct18), sl18⟩) (c18 : PySem.W.codeIn K cd18 "added" = true) (k18 : PySem.W.keepIn K (.ref f18) = true)
    {od19 an19 : Option Addr} {sl19 : Array (Option Value)} {oc19 kV19 dc19 pm19 cd19 ct19 : Value} {f19 : Addr} (a19 : PySem.W.nsIn K mainGlobals "times" = some (some (.ref f19))) (l19 : K.lookup f19 = some ⟨oc19, od19, .func (PySem.W.fnOf "times" "times" (defArgs s_times) (defBody s_times) (defScope s_times) .none kV19 dc19 pm19 an19 cd19 ct19), sl19⟩) (c19 : PySem.W.codeIn K cd19 "times" = true) (k19 : PySem.W.keepIn K (.ref f19) = true)
    {od20 an20 : Option Addr} {sl20 : Array (Option Value)} {oc20 kV20 dc20 pm20 cd20 ct20 : Value} {f20 : Addr} (a20 : PySem.W.nsIn K mainGlobals "taken" = some (some (.ref f20))) (l20 : K.lookup f20 = some ⟨oc20, od20, .func (PySem.W.fnOf "taken" "taken" (defArgs s_taken) (defBody s_taken) (defScope s_taken) .none kV20 dc20 pm20 an20 cd20 ct20), sl20⟩) (c20 : PySem.W.codeIn K cd20 "taken" = true) (k20 : PySem.W.keepIn K (.ref f20) = true)
    {od21 an21 : Option Addr} {sl21 : Array (Option Value)} {oc21 kV21 dc21 pm21 cd21 ct21 : Value} {f21 : Addr} (a21 : PySem.W.nsIn K mainGlobals "undone" = some (some (.ref f21))) (l21 : K.lookup f21 = some ⟨oc21, od21, .func (PySem.W.fnOf "undone" "undone" (defArgs s_undone) (defBody s_undone) (defScope s_undone) .none kV21 dc21 pm21 an21 cd21 ct21), sl21⟩) (c21 : PySem.W.codeIn K cd21 "undone" = true) (k21 : PySem.W.keepIn K (.ref f21) = true)
    {od22 an22 : Option Addr} {sl22 : Array (Option Value)} {oc22 kV22 dc22 pm22 cd22 ct22 : Value} {f22 : Addr} (a22 : PySem.W.nsIn K mainGlobals "ending" = some (some (.ref f22))) (l22 : K.lookup f22 = some ⟨oc22, od22, .func (PySem.W.fnOf "ending" "ending" (defArgs s_ending) (defBody s_ending) (defScope s_ending) .none kV22 dc22 pm22 an22 cd22 ct22), sl22⟩) (c22 : PySem.W.codeIn K cd22 "ending" = true) (k22 : PySem.W.keepIn K (.ref f22) = true)
    {od23 an23 : Option Addr} {sl23 : Array (Option Value)} {oc23 kV23 dc23 pm23 cd23 ct23 : Value} {f23 : Addr} (a23 : PySem.W.nsIn K mainGlobals "_law_cell_at" = some (some (.ref f23))) (l23 : K.lookup f23 = some ⟨oc23, od23, .func (PySem.W.fnOf "_law_cell_at" "_law_cell_at" (defArgs s_law_cell_at) (defBody s_law_cell_at) (defScope s_law_cell_at) .none kV23 dc23 pm23 an23 cd23 ct23), sl23⟩) (c23 : PySem.W.codeIn K cd23 "_law_cell_at" = true) (k23 : PySem.W.keepIn K (.ref f23) = true)
    {od24 an24 : Option Addr} {sl24 : Array (Option Value)} {oc24 kV24 dc24 pm24 cd24 ct24 : Value} {f24 : Addr} (a24 : PySem.W.nsIn K mainGlobals "_law_draw" = some (some (.ref f24))) (l24 : K.lookup f24 = some ⟨oc24, od24, .func (PySem.W.fnOf "_law_draw" "_law_draw" (defArgs s_law_draw) (defBody s_law_draw) (defScope s_law_draw) .none kV24 dc24 pm24 an24 cd24 ct24), sl24⟩) (c24 : PySem.W.codeIn K cd24 "_law_draw" = true) (k24 : PySem.W.keepIn K (.ref f24) = true)
    {od25 an25 : Option Addr} {sl25 : Array (Option Value)} {oc25 kV25 dc25 pm25 cd25 ct25 : Value} {f25 : Addr} (a25 : PySem.W.nsIn K mainGlobals "_law_number" = some (some (.ref f25))) (l25 : K.lookup f25 = some ⟨oc25, od25, .func (PySem.W.fnOf "_law_number" "_law_number" (defArgs s_law_number) (defBody s_law_number) (defScope s_law_number) .none kV25 dc25 pm25 an25 cd25 ct25), sl25⟩) (c25 : PySem.W.codeIn K cd25 "_law_number" = true) (k25 : PySem.W.keepIn K (.ref f25) = true)
    {od26 an26 : Option Addr} {sl26 : Array (Option Value)} {oc26 kV26 dc26 pm26 cd26 ct26 : Value} {f26 : Addr} (a26 : PySem.W.nsIn K mainGlobals "_law_deep" = some (some (.ref f26))) (l26 : K.lookup f26 = some ⟨oc26, od26, .func (PySem.W.fnOf "_law_deep" "_law_deep" (defArgs s_law_deep) (defBody s_law_deep) (defScope s_law_deep) .none kV26 dc26 pm26 an26 cd26 ct26), sl26⟩) (c26 : PySem.W.codeIn K cd26 "_law_deep" = true) (k26 : PySem.W.keepIn K (.ref f26) = true)
    {od27 an27 : Option Addr} {sl27 : Array (Option Value)} {oc27 kV27 dc27 pm27 cd27 ct27 : Value} {f27 : Addr} (a27 : PySem.W.nsIn K mainGlobals "_law_spoilt" = some (some (.ref f27))) (l27 : K.lookup f27 = some ⟨oc27, od27, .func (PySem.W.fnOf "_law_spoilt" "_law_spoilt" (defArgs s_law_spoilt) (defBody s_law_spoilt) (defScope s_law_spoilt) .none kV27 dc27 pm27 an27 cd27 ct27), sl27⟩) (c27 : PySem.W.codeIn K cd27 "_law_spoilt" = true) (k27 : PySem.W.keepIn K (.ref f27) = true)
    {od28 an28 : Option Addr} {sl28 : Array (Option Value)} {oc28 kV28 dc28 pm28 cd28 ct28 : Value} {f28 : Addr} (a28 : PySem.W.nsIn K mainGlobals "_law_put" = some (some (.ref f28))) (l28 : K.lookup f28 = some ⟨oc28, od28, .func (PySem.W.fnOf "_law_put" "_law_put" (defArgs s_law_put) (defBody s_law_put) (defScope s_law_put) .none kV28 dc28 pm28 an28 cd28 ct28), sl28⟩) (c28 : PySem.W.codeIn K cd28 "_law_put" = true) (k28 : PySem.W.keepIn K (.ref f28) = true)
    {od29 an29 : Option Addr} {sl29 : Array (Option Value)} {oc29 kV29 dc29 pm29 cd29 ct29 : Value} {f29 : Addr} (a29 : PySem.W.nsIn K mainGlobals "_law_door_right" = some (some (.ref f29))) (l29 : K.lookup f29 = some ⟨oc29, od29, .func (PySem.W.fnOf "_law_door_right" "_law_door_right" (defArgs s_law_door_right) (defBody s_law_door_right) (defScope s_law_door_right) .none kV29 dc29 pm29 an29 cd29 ct29), sl29⟩) (c29 : PySem.W.codeIn K cd29 "_law_door_right" = true) (k29 : PySem.W.keepIn K (.ref f29) = true)
    {od30 an30 : Option Addr} {sl30 : Array (Option Value)} {oc30 kV30 dc30 pm30 cd30 ct30 : Value} {f30 : Addr} (a30 : PySem.W.nsIn K mainGlobals "_law_two" = some (some (.ref f30))) (l30 : K.lookup f30 = some ⟨oc30, od30, .func (PySem.W.fnOf "_law_two" "_law_two" (defArgs s_law_two) (defBody s_law_two) (defScope s_law_two) .none kV30 dc30 pm30 an30 cd30 ct30), sl30⟩) (c30 : PySem.W.codeIn K cd30 "_law_two" = true) (k30 : PySem.W.keepIn K (.ref f30) = true)
    {od31 an31 : Option Addr} {sl31 : Array (Option Value)} {oc31 kV31 dc31 pm31 cd31 ct31 : Value} {f31 : Addr} (a31 : PySem.W.nsIn K mainGlobals "_law_doors_right" = some (some (.ref f31))) (l31 : K.lookup f31 = some ⟨oc31, od31, .func (PySem.W.fnOf "_law_doors_right" "_law_doors_right" (defArgs s_law_doors_right) (defBody s_law_doors_right) (defScope s_law_doors_right) .none kV31 dc31 pm31 an31 cd31 ct31), sl31⟩) (c31 : PySem.W.codeIn K cd31 "_law_doors_right" = true) (k31 : PySem.W.keepIn K (.ref f31) = true)
    {od32 an32 : Option Addr} {sl32 : Array (Option Value)} {oc32 kV32 dc32 pm32 cd32 ct32 : Value} {f32 : Addr} (a32 : PySem.W.nsIn K mainGlobals "_law_judged" = some (some (.ref f32))) (l32 : K.lookup f32 = some ⟨oc32, od32, .func (PySem.W.fnOf "_law_judged" "_law_judged" (defArgs s_law_judged) (defBody s_law_judged) (defScope s_law_judged) .none kV32 dc32 pm32 an32 cd32 ct32), sl32⟩) (c32 : PySem.W.codeIn K cd32 "_law_judged" = true) (k32 : PySem.W.keepIn K (.ref f32) = true)
    {od33 an33 : Option Addr} {sl33 : Array (Option Value)} {oc33 kV33 dc33 pm33 cd33 ct33 : Value} {f33 : Addr} (a33 : PySem.W.nsIn K mainGlobals "_law_added" = some (some (.ref f33))) (l33 : K.lookup f33 = some ⟨oc33, od33, .func (PySem.W.fnOf "_law_added" "_law_added" (defArgs s_law_added) (defBody s_law_added) (defScope s_law_added) .none kV33 dc33 pm33 an33 cd33 ct33), sl33⟩) (c33 : PySem.W.codeIn K cd33 "_law_added" = true) (k33 : PySem.W.keepIn K (.ref f33) = true)
    {od34 an34 : Option Addr} {sl34 : Array (Option Value)} {oc34 kV34 dc34 pm34 cd34 ct34 : Value} {f34 : Addr} (a34 : PySem.W.nsIn K mainGlobals "_law_times" = some (some (.ref f34))) (l34 : K.lookup f34 = some ⟨oc34, od34, .func (PySem.W.fnOf "_law_times" "_law_times" (defArgs s_law_times) (defBody s_law_times) (defScope s_law_times) .none kV34 dc34 pm34 an34 cd34 ct34), sl34⟩) (c34 : PySem.W.codeIn K cd34 "_law_times" = true) (k34 : PySem.W.keepIn K (.ref f34) = true)
    {od35 an35 : Option Addr} {sl35 : Array (Option Value)} {oc35 kV35 dc35 pm35 ct35 : Value} {f35 cc0 tb0 : Addr} (a35 : PySem.W.nsIn K mainGlobals "law" = some (some (.ref f35))) (l35 : K.lookup f35 = some ⟨oc35, od35, .func (PySem.W.fnOf "law" "law" (defArgs s_law) (defBody s_law) (defScope s_law) .none kV35 dc35 pm35 an35 (.ref cc0) ct35), sl35⟩) (c35 : PySem.W.codeIn K (.ref cc0) "law" = true) (k35 : PySem.W.keepIn K (.ref f35) = true)
    (z0 : PySem.W.nsIn K mainGlobals "isinstance" = some none)
    (z1 : PySem.W.nsIn K mainGlobals "int" = some none)
    (z2 : PySem.W.nsIn K mainGlobals "bool" = some none)
    (z3 : PySem.W.nsIn K mainGlobals "tuple" = some none)
    (z4 : PySem.W.nsIn K mainGlobals "list" = some none)
    (z5 : PySem.W.nsIn K mainGlobals "len" = some none)
    (z6 : PySem.W.nsIn K mainGlobals "all" = some none)
    (z7 : PySem.W.nsIn K mainGlobals "max" = some none)
    (z8 : PySem.W.nsIn K mainGlobals "range" = some none)
    (z9 : PySem.W.nsIn K mainGlobals "enumerate" = some none)
    (z10 : PySem.W.nsIn K mainGlobals "zip" = some none)
    (z11 : PySem.W.nsIn K mainGlobals "str" = some none)
    {t0 : Tok} (q0 : PySem.W.nsIn K mainGlobals "GREATEST" = some (some (.int 60 t0)))
    {t1 : Tok} (q1 : PySem.W.nsIn K mainGlobals "LONGEST" = some (some (.int 200 t1)))
    {t2 : Tok} (q2 : PySem.W.nsIn K mainGlobals "MOST_rows" = some (some (.int 2000 t2)))
    {t3 : Tok} (q3 : PySem.W.nsIn K mainGlobals "MOST_TIMES" = some (some (.int 1000 t3)))
    {t4 : Tok} (q4 : PySem.W.nsIn K mainGlobals "MOST_endings" = some (some (.int 40 t4)))
    {C1 : Addr} (e1 : PySem.W.nsIn K mainGlobals "Writes" = some (some (.ref C1)))
    {C2 : Addr} (e2 : PySem.W.nsIn K mainGlobals "Breaks" = some (some (.ref C2)))
    {C3 : Addr} (e3 : PySem.W.nsIn K mainGlobals "Sum" = some (some (.ref C3)))
    {C4 : Addr} (e4 : PySem.W.nsIn K mainGlobals "Times" = some (some (.ref C4)))
    (pg1 : PySem.W.plainGet K C1 Str.empty = true) (hd1 : PySem.W.hasDictIn K C1 = true) (po1 : PySem.W.plainOver K C1 = true) (sa1 : PySem.W.findIn K (.ref C1) "__setattr__" = some (some (.builtin "object.__setattr__"))) (mk1 : PySem.W.makesIn K C1 = true) (kc1 : PySem.W.keepIn K (.ref C1) = true) (ha1 : PySem.W.findIn K (.ref C1) "__class__" = some (some (.builtin "object.__class__"))) (hm1 : PySem.W.mroIn K C1 (.type "object") = some true)
    (hnZ : PySem.W.specialIn K (.builtin "object.__class__") "__get__" = some (some (.builtin "getset_descriptor.__get__"))) (htZ : PySem.W.takesIn K (.builtin "object.__class__") = some true)
    (na1number : PySem.W.findIn K (.ref C1) "number" = some none)
    {odI1 anI1 : Option Addr} {slI1 : Array (Option Value)} {ocI1 kVI1 dcI1 pmI1 cdI1 ctI1 : Value} {fI1 : Addr} (aI1 : PySem.W.findIn K (.ref C1) "__init__" = some (some (.ref fI1))) (iI1 : PySem.W.isFn K (.ref fI1) = true) (lI1 : K.lookup fI1 = some ⟨ocI1, odI1, .func (PySem.W.fnOf "__init__" "Writes.__init__" (defArgs s_Writes___init__) (defBody s_Writes___init__) (defScope s_Writes___init__) .none kVI1 dcI1 pmI1 anI1 cdI1 ctI1), slI1⟩) (cI1 : PySem.W.codeIn K cdI1 "Writes.__init__" = true) (kI1 : PySem.W.keepIn K (.ref fI1) = true)
    (pg2 : PySem.W.plainGet K C2 Str.empty = true) (hd2 : PySem.W.hasDictIn K C2 = true) (po2 : PySem.W.plainOver K C2 = true) (sa2 : PySem.W.findIn K (.ref C2) "__setattr__" = some (some (.builtin "object.__setattr__"))) (mk2 : PySem.W.makesIn K C2 = true) (kc2 : PySem.W.keepIn K (.ref C2) = true) (ha2 : PySem.W.findIn K (.ref C2) "__class__" = some (some (.builtin "object.__class__"))) (hm2 : PySem.W.mroIn K C2 (.type "object") = some true)
    (na2place : PySem.W.findIn K (.ref C2) "place" = some none)
    (na2left : PySem.W.findIn K (.ref C2) "left" = some none)
    {odI2 anI2 : Option Addr} {slI2 : Array (Option Value)} {ocI2 kVI2 dcI2 pmI2 cdI2 ctI2 : Value} {fI2 : Addr} (aI2 : PySem.W.findIn K (.ref C2) "__init__" = some (some (.ref fI2))) (iI2 : PySem.W.isFn K (.ref fI2) = true) (lI2 : K.lookup fI2 = some ⟨ocI2, odI2, .func (PySem.W.fnOf "__init__" "Breaks.__init__" (defArgs s_Breaks___init__) (defBody s_Breaks___init__) (defScope s_Breaks___init__) .none kVI2 dcI2 pmI2 anI2 cdI2 ctI2), slI2⟩) (cI2 : PySem.W.codeIn K cdI2 "Breaks.__init__" = true) (kI2 : PySem.W.keepIn K (.ref fI2) = true)
    (pg3 : PySem.W.plainGet K C3 Str.empty = true) (hd3 : PySem.W.hasDictIn K C3 = true) (po3 : PySem.W.plainOver K C3 = true) (sa3 : PySem.W.findIn K (.ref C3) "__setattr__" = some (some (.builtin "object.__setattr__"))) (mk3 : PySem.W.makesIn K C3 = true) (kc3 : PySem.W.keepIn K (.ref C3) = true) (ha3 : PySem.W.findIn K (.ref C3) "__class__" = some (some (.builtin "object.__class__"))) (hm3 : PySem.W.mroIn K C3 (.type "object") = some true)
    (na3row : PySem.W.findIn K (.ref C3) "row" = some none)
    (na3carries : PySem.W.findIn K (.ref C3) "carries" = some none)
    {odI3 anI3 : Option Addr} {slI3 : Array (Option Value)} {ocI3 kVI3 dcI3 pmI3 cdI3 ctI3 : Value} {fI3 : Addr} (aI3 : PySem.W.findIn K (.ref C3) "__init__" = some (some (.ref fI3))) (iI3 : PySem.W.isFn K (.ref fI3) = true) (lI3 : K.lookup fI3 = some ⟨ocI3, odI3, .func (PySem.W.fnOf "__init__" "Sum.__init__" (defArgs s_Sum___init__) (defBody s_Sum___init__) (defScope s_Sum___init__) .none kVI3 dcI3 pmI3 anI3 cdI3 ctI3), slI3⟩) (cI3 : PySem.W.codeIn K cdI3 "Sum.__init__" = true) (kI3 : PySem.W.keepIn K (.ref fI3) = true)
    (pg4 : PySem.W.plainGet K C4 Str.empty = true) (hd4 : PySem.W.hasDictIn K C4 = true) (po4 : PySem.W.plainOver K C4 = true) (sa4 : PySem.W.findIn K (.ref C4) "__setattr__" = some (some (.builtin "object.__setattr__"))) (mk4 : PySem.W.makesIn K C4 = true) (kc4 : PySem.W.keepIn K (.ref C4) = true) (ha4 : PySem.W.findIn K (.ref C4) "__class__" = some (some (.builtin "object.__class__"))) (hm4 : PySem.W.mroIn K C4 (.type "object") = some true)
    (na4row : PySem.W.findIn K (.ref C4) "row" = some none)
    (na4carries : PySem.W.findIn K (.ref C4) "carries" = some none)
    {odI4 anI4 : Option Addr} {slI4 : Array (Option Value)} {ocI4 kVI4 dcI4 pmI4 cdI4 ctI4 : Value} {fI4 : Addr} (aI4 : PySem.W.findIn K (.ref C4) "__init__" = some (some (.ref fI4))) (iI4 : PySem.W.isFn K (.ref fI4) = true) (lI4 : K.lookup fI4 = some ⟨ocI4, odI4, .func (PySem.W.fnOf "__init__" "Times.__init__" (defArgs s_Times___init__) (defBody s_Times___init__) (defScope s_Times___init__) .none kVI4 dcI4 pmI4 anI4 cdI4 ctI4), slI4⟩) (cI4 : PySem.W.codeIn K cdI4 "Times.__init__" = true) (kI4 : PySem.W.keepIn K (.ref fI4) = true)
    {odW1 anW1 : Option Addr} {slW1 : Array (Option Value)} {ocW1 kVW1 dcW1 pmW1 cdW1 ctW1 : Value} {fW1 : Addr} (aW1 : PySem.W.findIn K (.ref C1) "shows" = some (some (.ref fW1))) (iW1 : PySem.W.isFn K (.ref fW1) = true) (lW1 : K.lookup fW1 = some ⟨ocW1, odW1, .func (PySem.W.fnOf "shows" "Writes.shows" (defArgs s_Writes_shows) (defBody s_Writes_shows) (defScope s_Writes_shows) .none kVW1 dcW1 pmW1 anW1 cdW1 ctW1), slW1⟩) (cW1 : PySem.W.codeIn K cdW1 "Writes.shows" = true) (kW1 : PySem.W.keepIn K (.ref fW1) = true)
    {odW2 anW2 : Option Addr} {slW2 : Array (Option Value)} {ocW2 kVW2 dcW2 pmW2 cdW2 ctW2 : Value} {fW2 : Addr} (aW2 : PySem.W.findIn K (.ref C2) "shows" = some (some (.ref fW2))) (iW2 : PySem.W.isFn K (.ref fW2) = true) (lW2 : K.lookup fW2 = some ⟨ocW2, odW2, .func (PySem.W.fnOf "shows" "Breaks.shows" (defArgs s_Breaks_shows) (defBody s_Breaks_shows) (defScope s_Breaks_shows) .none kVW2 dcW2 pmW2 anW2 cdW2 ctW2), slW2⟩) (cW2 : PySem.W.codeIn K cdW2 "Breaks.shows" = true) (kW2 : PySem.W.keepIn K (.ref fW2) = true)
    {odW3 anW3 : Option Addr} {slW3 : Array (Option Value)} {ocW3 kVW3 dcW3 pmW3 cdW3 ctW3 : Value} {fW3 : Addr} (aW3 : PySem.W.findIn K (.ref C3) "shows" = some (some (.ref fW3))) (iW3 : PySem.W.isFn K (.ref fW3) = true) (lW3 : K.lookup fW3 = some ⟨ocW3, odW3, .func (PySem.W.fnOf "shows" "Sum.shows" (defArgs s_Sum_shows) (defBody s_Sum_shows) (defScope s_Sum_shows) .none kVW3 dcW3 pmW3 anW3 cdW3 ctW3), slW3⟩) (cW3 : PySem.W.codeIn K cdW3 "Sum.shows" = true) (kW3 : PySem.W.keepIn K (.ref fW3) = true)
    {odW4 anW4 : Option Addr} {slW4 : Array (Option Value)} {ocW4 kVW4 dcW4 pmW4 cdW4 ctW4 : Value} {fW4 : Addr} (aW4 : PySem.W.findIn K (.ref C4) "shows" = some (some (.ref fW4))) (iW4 : PySem.W.isFn K (.ref fW4) = true) (lW4 : K.lookup fW4 = some ⟨ocW4, odW4, .func (PySem.W.fnOf "shows" "Times.shows" (defArgs s_Times_shows) (defBody s_Times_shows) (defScope s_Times_shows) .none kVW4 dcW4 pmW4 anW4 cdW4 ctW4), slW4⟩) (cW4 : PySem.W.codeIn K cdW4 "Times.shows" = true) (kW4 : PySem.W.keepIn K (.ref fW4) = true)
    (ty1 : PySem.W.typeIn K (.ref C1) = some (.type "type"))
    (su1_1 : PySem.W.subIn K (.ref C1) (.ref C1) = some true)
    (su2_1 : PySem.W.subIn K (.ref C2) (.ref C1) = some false)
    (se1_1 : PySem.W.subIn K (.ref C1) (.ref C1) = some true)
    (su3_1 : PySem.W.subIn K (.ref C3) (.ref C1) = some false)
    (su4_1 : PySem.W.subIn K (.ref C4) (.ref C1) = some false)
    {odC0 : Option Addr} {vsC0 : Array Value} {slC0 : Array (Option Value)} (mc0 : K.lookup cc0 = some ⟨.type "code", odC0, .fields vsC0, slC0⟩) (mv0 : vsC0[11]? = some (.ref tb0)) (mh0 : PySem.W.codeHdIn K cc0 tb0 = true) (mn0 : K.lookup tb0 = none) (mt0 : tb0 ∈ ts)
    (tq0 : ∀ p ∈ ([(tb0, ql_0)] : List (Addr × Str)), p.1 = tb0 → p.2 = ql_0) :
    LawAtG l w K 16 63 "_law_script" mg fa h := by
  have e := hfa.symm.trans (PySem.W.mg_of X G a35)
  cases e
  have T : Top K mg (fun n => ([0, C1, C2, C3, C4, 0, 0, 0, 0, 0, 0, 0, 0, 0, 0, 0, 0, 0, 0, 0, cc0, 0, 0, 0, 0, 0, 0, 0, 0, 0, 0, 0, 0, 0, 0, 0, 0, 0, 0, 0, tb0, 0, 0, 0, 0, 0, 0, 0, 0, 0, 0, 0, 0, 0, 0, 0, 0, 0, 0, 0] : List Addr).getD n 0) := ⟨⟨f0, _, PySem.W.mg_of X G a0, fun_mk (st := s_is_whole) l0 c0 k0, (fun_mk (st := s_is_whole) l0 c0 k0).binds fun _ _ _ _ _ _ us hl => match us, hl with | [_], _ => rfl⟩,
    ⟨f1, _, PySem.W.mg_of X G a1, fun_mk (st := s_common) l1 c1 k1, (fun_mk (st := s_common) l1 c1 k1).binds fun _ _ _ _ _ _ us hl => match us, hl with | [_, _], _ => rfl⟩,
    ⟨f2, _, PySem.W.mg_of X G a2, fun_mk (st := s_check_base) l2 c2 k2, (fun_mk (st := s_check_base) l2 c2 k2).binds fun _ _ _ _ _ _ us hl => match us, hl with | [_], _ => rfl⟩,
    ⟨f3, _, PySem.W.mg_of X G a3, fun_mk (st := s_check_number) l3 c3 k3, (fun_mk (st := s_check_number) l3 c3 k3).binds fun _ _ _ _ _ _ us hl => match us, hl with | [_, _], _ => rfl⟩,
    ⟨f4, _, PySem.W.mg_of X G a4, fun_mk (st := s_check_count) l4 c4 k4, (fun_mk (st := s_check_count) l4 c4 k4).binds fun _ _ _ _ _ _ us hl => match us, hl with | [_, _, _], _ => rfl⟩,
    ⟨f5, _, PySem.W.mg_of X G a5, fun_mk (st := s_parted) l5 c5 k5, (fun_mk (st := s_parted) l5 c5 k5).binds fun _ _ _ _ _ _ us hl => match us, hl with | [_, _], _ => rfl⟩,
    ⟨f6, _, PySem.W.mg_of X G a6, fun_mk (st := s_are_figures) l6 c6 k6, (fun_mk (st := s_are_figures) l6 c6 k6).binds fun _ _ _ _ _ _ us hl => match us, hl with | [_, _], _ => rfl⟩,
    ⟨f7, _, PySem.W.mg_of X G a7, fun_mk (st := s_read) l7 c7 k7, (fun_mk (st := s_read) l7 c7 k7).binds fun _ _ _ _ _ _ us hl => match us, hl with | [_, _], _ => rfl⟩,
    ⟨f8, _, PySem.W.mg_of X G a8, fun_mk (st := s_plain) l8 c8 k8, (fun_mk (st := s_plain) l8 c8 k8).binds fun _ _ _ _ _ _ us hl => match us, hl with | [_], _ => rfl⟩,
    ⟨f9, _, PySem.W.mg_of X G a9, fun_mk (st := s_carried) l9 c9 k9, (fun_mk (st := s_carried) l9 c9 k9).binds fun _ _ _ _ _ _ us hl => match us, hl with | [_, _, _, _], _ => rfl⟩,
    ⟨f10, _, PySem.W.mg_of X G a10, fun_mk (st := s_summed) l10 c10 k10, (fun_mk (st := s_summed) l10 c10 k10).binds fun _ _ _ _ _ _ us hl => match us, hl with | [_, _], _ => rfl⟩,
    ⟨f11, _, PySem.W.mg_of X G a11, fun_mk (st := s_check_row) l11 c11 k11, (fun_mk (st := s_check_row) l11 c11 k11).binds fun _ _ _ _ _ _ us hl => match us, hl with | [_, _], _ => rfl⟩,
    ⟨f12, _, PySem.W.mg_of X G a12, fun_mk (st := s_row_of) l12 c12 k12, (fun_mk (st := s_row_of) l12 c12 k12).binds fun _ _ _ _ _ _ us hl => match us, hl with | [_, _], _ => rfl⟩,
    ⟨f13, _, PySem.W.mg_of X G a13, fun_mk (st := s_written) l13 c13 k13, (fun_mk (st := s_written) l13 c13 k13).binds fun _ _ _ _ _ _ us hl => match us, hl with | [_, _], _ => rfl⟩,
    ⟨f14, _, PySem.W.mg_of X G a14, fun_mk (st := s_judged) l14 c14 k14, (fun_mk (st := s_judged) l14 c14 k14).binds fun _ _ _ _ _ _ us hl => match us, hl with | [_, _], _ => rfl⟩,
    ⟨f15, _, PySem.W.mg_of X G a15, fun_mk (st := s_worth) l15 c15 k15, (fun_mk (st := s_worth) l15 c15 k15).binds fun _ _ _ _ _ _ us hl => match us, hl with | [_, _], _ => rfl⟩,
    ⟨f16, _, PySem.W.mg_of X G a16, fun_mk (st := s_check_whole) l16 c16 k16, (fun_mk (st := s_check_whole) l16 c16 k16).binds fun _ _ _ _ _ _ us hl => match us, hl with | [_, _], _ => rfl⟩,
    ⟨f17, _, PySem.W.mg_of X G a17, fun_mk (st := s_carrying) l17 c17 k17, (fun_mk (st := s_carrying) l17 c17 k17).binds fun _ _ _ _ _ _ us hl => match us, hl with | [_, _], _ => rfl⟩,
    ⟨f18, _, PySem.W.mg_of X G a18, fun_mk (st := s_added) l18 c18 k18, (fun_mk (st := s_added) l18 c18 k18).binds fun _ _ _ _ _ _ us hl => match us, hl with | [_, _, _], _ => rfl⟩,
    ⟨f19, _, PySem.W.mg_of X G a19, fun_mk (st := s_times) l19 c19 k19, (fun_mk (st := s_times) l19 c19 k19).binds fun _ _ _ _ _ _ us hl => match us, hl with | [_, _, _], _ => rfl⟩,
    ⟨f20, _, PySem.W.mg_of X G a20, fun_mk (st := s_taken) l20 c20 k20, (fun_mk (st := s_taken) l20 c20 k20).binds fun _ _ _ _ _ _ us hl => match us, hl with | [_, _, _], _ => rfl⟩,
    ⟨f21, _, PySem.W.mg_of X G a21, fun_mk (st := s_undone) l21 c21 k21, (fun_mk (st := s_undone) l21 c21 k21).binds fun _ _ _ _ _ _ us hl => match us, hl with | [_, _], _ => rfl⟩,
    ⟨f22, _, PySem.W.mg_of X G a22, fun_mk (st := s_ending) l22 c22 k22, (fun_mk (st := s_ending) l22 c22 k22).binds fun _ _ _ _ _ _ us hl => match us, hl with | [_, _], _ => rfl⟩,
    ⟨f23, _, PySem.W.mg_of X G a23, fun_mk (st := s_law_cell_at) l23 c23 k23, (fun_mk (st := s_law_cell_at) l23 c23 k23).binds fun _ _ _ _ _ _ us hl => match us, hl with | [_, _], _ => rfl⟩,
    ⟨f24, _, PySem.W.mg_of X G a24, fun_mk (st := s_law_draw) l24 c24 k24, (fun_mk (st := s_law_draw) l24 c24 k24).binds fun _ _ _ _ _ _ us hl => match us, hl with | [_, _, _], _ => rfl⟩,
    ⟨f25, _, PySem.W.mg_of X G a25, fun_mk (st := s_law_number) l25 c25 k25, (fun_mk (st := s_law_number) l25 c25 k25).binds fun _ _ _ _ _ _ us hl => match us, hl with | [_, _, _], _ => rfl⟩,
    ⟨f26, _, PySem.W.mg_of X G a26, fun_mk (st := s_law_deep) l26 c26 k26, (fun_mk (st := s_law_deep) l26 c26 k26).binds fun _ _ _ _ _ _ us hl => match us, hl with | [_], _ => rfl⟩,
    ⟨f27, _, PySem.W.mg_of X G a27, fun_mk (st := s_law_spoilt) l27 c27 k27, (fun_mk (st := s_law_spoilt) l27 c27 k27).binds fun _ _ _ _ _ _ us hl => match us, hl with | [_], _ => rfl⟩,
    ⟨f28, _, PySem.W.mg_of X G a28, fun_mk (st := s_law_put) l28 c28 k28, (fun_mk (st := s_law_put) l28 c28 k28).binds fun _ _ _ _ _ _ us hl => match us, hl with | [_, _], _ => rfl⟩,
    ⟨f29, _, PySem.W.mg_of X G a29, fun_mk (st := s_law_door_right) l29 c29 k29, (fun_mk (st := s_law_door_right) l29 c29 k29).binds fun _ _ _ _ _ _ us hl => match us, hl with | [_, _, _], _ => rfl⟩,
    ⟨f30, _, PySem.W.mg_of X G a30, fun_mk (st := s_law_two) l30 c30 k30, (fun_mk (st := s_law_two) l30 c30 k30).binds fun _ _ _ _ _ _ us hl => match us, hl with | [_], _ => rfl⟩,
    ⟨f31, _, PySem.W.mg_of X G a31, fun_mk (st := s_law_doors_right) l31 c31 k31, (fun_mk (st := s_law_doors_right) l31 c31 k31).binds fun _ _ _ _ _ _ us hl => match us, hl with | [_, _, _], _ => rfl⟩,
    ⟨f32, _, PySem.W.mg_of X G a32, fun_mk (st := s_law_judged) l32 c32 k32, (fun_mk (st := s_law_judged) l32 c32 k32).binds fun _ _ _ _ _ _ us hl => match us, hl with | [_], _ => rfl⟩,
    ⟨f33, _, PySem.W.mg_of X G a33, fun_mk (st := s_law_added) l33 c33 k33, (fun_mk (st := s_law_added) l33 c33 k33).binds fun _ _ _ _ _ _ us hl => match us, hl with | [_, _], _ => rfl⟩,
    ⟨f34, _, PySem.W.mg_of X G a34, fun_mk (st := s_law_times) l34 c34 k34, (fun_mk (st := s_law_times) l34 c34 k34).binds fun _ _ _ _ _ _ us hl => match us, hl with | [_, _], _ => rfl⟩,
    ⟨_, _, PySem.W.mg_of X G a35, funC_mk (st := s_law) l35 c35 k35, (fun_mk (st := s_law) l35 c35 k35).binds fun _ _ _ _ _ _ us hl => match us, hl with | [_], _ => rfl⟩,
    tq0,
    PySem.W.mg_none_of X G z0,
    PySem.W.mg_none_of X G z1,
    PySem.W.mg_none_of X G z2,
    PySem.W.mg_none_of X G z3,
    PySem.W.mg_none_of X G z4,
    PySem.W.mg_none_of X G z5,
    PySem.W.mg_none_of X G z6,
    PySem.W.mg_none_of X G z7,
    PySem.W.mg_none_of X G z8,
    PySem.W.mg_none_of X G z9,
    PySem.W.mg_none_of X G z10,
    PySem.W.mg_none_of X G z11,
    ⟨_, PySem.W.mg_of X G q0⟩,
    ⟨_, PySem.W.mg_of X G q1⟩,
    ⟨_, PySem.W.mg_of X G q2⟩,
    ⟨_, PySem.W.mg_of X G q3⟩,
    ⟨_, PySem.W.mg_of X G q4⟩,
    PySem.W.mg_of X G e1,
    ⟨⟨pg1, hd1, po1, sa1⟩, ha1, hnZ, htZ, hm1⟩,
    na1number,
    ⟨fI1, _, fun_mk (st := s_Writes___init__) lI1 cI1 kI1, (fun_mk (st := s_Writes___init__) lI1 cI1 kI1).binds fun _ _ _ _ _ _ us hl => match us, hl with | [_, _], _ => rfl, ⟨mk1, aI1, iI1, kc1⟩⟩,
    PySem.W.mg_of X G e2,
    ⟨⟨pg2, hd2, po2, sa2⟩, ha2, hnZ, htZ, hm2⟩,
    na2place,
    na2left,
    ⟨fI2, _, fun_mk (st := s_Breaks___init__) lI2 cI2 kI2, (fun_mk (st := s_Breaks___init__) lI2 cI2 kI2).binds fun _ _ _ _ _ _ us hl => match us, hl with | [_, _, _], _ => rfl, ⟨mk2, aI2, iI2, kc2⟩⟩,
    PySem.W.mg_of X G e3,
    ⟨⟨pg3, hd3, po3, sa3⟩, ha3, hnZ, htZ, hm3⟩,
    na3row,
    na3carries,
    ⟨fI3, _, fun_mk (st := s_Sum___init__) lI3 cI3 kI3, (fun_mk (st := s_Sum___init__) lI3 cI3 kI3).binds fun _ _ _ _ _ _ us hl => match us, hl with | [_, _, _], _ => rfl, ⟨mk3, aI3, iI3, kc3⟩⟩,
    PySem.W.mg_of X G e4,
    ⟨⟨pg4, hd4, po4, sa4⟩, ha4, hnZ, htZ, hm4⟩,
    na4row,
    na4carries,
    ⟨fI4, _, fun_mk (st := s_Times___init__) lI4 cI4 kI4, (fun_mk (st := s_Times___init__) lI4 cI4 kI4).binds fun _ _ _ _ _ _ us hl => match us, hl with | [_, _, _], _ => rfl, ⟨mk4, aI4, iI4, kc4⟩⟩,
    ⟨fW1, _, fun_mk (st := s_Writes_shows) lW1 cW1 kW1, (fun_mk (st := s_Writes_shows) lW1 cW1 kW1).binds fun _ _ _ _ _ _ us hl => match us, hl with | [_, _, _], _ => rfl, ⟨aW1, iW1, kW1⟩⟩,
    ⟨fW2, _, fun_mk (st := s_Breaks_shows) lW2 cW2 kW2, (fun_mk (st := s_Breaks_shows) lW2 cW2 kW2).binds fun _ _ _ _ _ _ us hl => match us, hl with | [_, _, _], _ => rfl, ⟨aW2, iW2, kW2⟩⟩,
    ⟨fW3, _, fun_mk (st := s_Sum_shows) lW3 cW3 kW3, (fun_mk (st := s_Sum_shows) lW3 cW3 kW3).binds fun _ _ _ _ _ _ us hl => match us, hl with | [_, _, _, _], _ => rfl, ⟨aW3, iW3, kW3⟩⟩,
    ⟨fW4, _, fun_mk (st := s_Times_shows) lW4 cW4 kW4, (fun_mk (st := s_Times_shows) lW4 cW4 kW4).binds fun _ _ _ _ _ _ us hl => match us, hl with | [_, _, _, _], _ => rfl, ⟨aW4, iW4, kW4⟩⟩,
    ⟨hd1, ty1⟩,
    ⟨su1_1, fun _ => rfl⟩,
    ⟨su2_1, fun h => by have h2 : (Value.ref C2 : Value) = .ref C1 := beq_iff_eq.mp h; rw [h2, se1_1] at su2_1; cases su2_1⟩,
    ⟨su3_1, fun h => by have h2 : (Value.ref C3 : Value) = .ref C1 := beq_iff_eq.mp h; rw [h2, se1_1] at su3_1; cases su3_1⟩,
    ⟨su4_1, fun h => by have h2 : (Value.ref C4 : Value) = .ref C1 := beq_iff_eq.mp h; rw [h2, se1_1] at su4_1; cases su4_1⟩⟩
  exact ⟨PySem.W.fnOf "law" "law" (defArgs s_law) (defBody s_law) (defScope s_law) .none kV35 dc35 pm35 an35 (.ref cc0) ct35, [(cc0, tb0)], spLaw (tabsT fun n => ([0, C1, C2, C3, C4, 0, 0, 0, 0, 0, 0, 0, 0, 0, 0, 0, 0, 0, 0, 0, cc0, 0, 0, 0, 0, 0, 0, 0, 0, 0, 0, 0, 0, 0, 0, 0, 0, 0, 0, 0, tb0, 0, 0, 0, 0, 0, 0, 0, 0, 0, 0, 0, 0, 0, 0, 0, 0, 0, 0, 0] : List Addr).getD n 0) K,
    (List.forall_mem_cons.mpr ⟨hts _ mt0, (fun _ h => nomatch h)⟩),
    (List.forall_mem_cons.mpr ⟨mn0, (fun _ h => nomatch h)⟩),
    (List.forall_mem_cons.mpr ⟨PySem.W.codeHd_of_K X mh0, (fun _ h => nomatch h)⟩),
    fun s v => .of_eq rfl, fun H a ns hl _ hH hS => ⟨a, ns, rfl, ⟨hS⟩, hl, ⟨(List.forall_mem_cons.mpr ⟨LamX.TabS.nil (hH _ (List.Mem.head _)), (fun _ h => nomatch h)⟩)⟩, fun _ => rfl⟩,
    fun base _ _ hB => ok_law T ⟨(hB _ (List.Mem.head _))⟩ (funC_mk (st := s_law) l35 c35 k35)⟩
end Bb
open PySem PySem.W PyProof.Rows
set_option maxRecDepth 100000 in
set_option maxHeartbeats 0 in
theorem PySem.Challenge.cw_brokenbase_k22_whole_anew_holds : PySem.Challenge.rw_brokenbase_k22_whole_anew.Holds := by
  w_on; o_law; k_head; (case hw => w_witness2)
  k_fill
  refine Bb.walk_ofTG (l := PySem.Challenge.rw_brokenbase_k22_whole_anew) (n := 63) (k := 16) (x := "_law_script") rfl (by decide) rfl ⟨rfl, by decide, by decide⟩ (fun w h Y => PySem.W.km_in_of Y) ?F
  case F =>
    intro w mg fa h Y KX G hmg
    refine' Bb.all_mk KX G hmg (PySem.W.km_tabs_of Y) ?a0 ?l0 ?c0 ?k0 ?a1 ?l1 ?c1 ?k1 ?a2 ?l2 ?c2 ?k2 ?a3 ?l3 ?c3 ?k3 ?a4 ?l4 ?c4 ?k4 ?a5 ?l5 ?c5 ?k5 ?a6 ?l6 ?c6 ?k6 ?a7 ?l7 ?c7 ?k7 ?a8 ?l8 ?c8 ?k8 ?a9 ?l9 ?c9 ?k9 ?a10 ?l10 ?c10 ?k10 ?a11 ?l11 ?c11 ?k11 ?a12 ?l12 ?c12 ?k12 ?a13 ?l13 ?c13 ?k13 ?a14 ?l14 ?c14 ?k14 ?a15 ?l15 ?c15 ?k15 ?a16 ?l16 ?c16 ?k16 ?a17 ?l17 ?c17 ?k17 ?a18 ?l18 ?c18 ?k18 ?a19 ?l19 ?c19 ?k19 ?a20 ?l20 ?c20 ?k20 ?a21 ?l21 ?c21 ?k21 ?a22 ?l22 ?c22 ?k22 ?a23 ?l23 ?c23 ?k23 ?a24 ?l24 ?c24 ?k24 ?a25 ?l25 ?c25 ?k25 ?a26 ?l26 ?c26 ?k26 ?a27 ?l27 ?c27 ?k27 ?a28 ?l28 ?c28 ?k28 ?a29 ?l29 ?c29 ?k29 ?a30 ?l30 ?c30 ?k30 ?a31 ?l31 ?c31 ?k31 ?a32 ?l32 ?c32 ?k32 ?a33 ?l33 ?c33 ?k33 ?a34 ?l34 ?c34 ?k34 ?a35 ?l35 ?c35 ?k35 ?z0 ?z1 ?z2 ?z3 ?z4 ?z5 ?z6 ?z7 ?z8 ?z9 ?z10 ?z11 ?q0 ?q1 ?q2 ?q3 ?q4 ?e1 ?e2 ?e3 ?e4 ?pg1 ?hd1 ?po1 ?sa1 ?mk1 ?kc1 ?ha1 ?hm1 ?hnZ ?htZ ?na1number ?aI1 ?iI1 ?lI1 ?cI1 ?kI1 ?pg2 ?hd2 ?po2 ?sa2 ?mk2 ?kc2 ?ha2 ?hm2 ?na2place ?na2left ?aI2 ?iI2 ?lI2 ?cI2 ?kI2 ?pg3 ?hd3 ?po3 ?sa3 ?mk3 ?kc3 ?ha3 ?hm3 ?na3row ?na3carries ?aI3 ?iI3 ?lI3 ?cI3 ?kI3 ?pg4 ?hd4 ?po4 ?sa4 ?mk4 ?kc4 ?ha4 ?hm4 ?na4row ?na4carries ?aI4 ?iI4 ?lI4 ?cI4 ?kI4 ?aW1 ?iW1 ?lW1 ?cW1 ?kW1 ?aW2 ?iW2 ?lW2 ?cW2 ?kW2 ?aW3 ?iW3 ?lW3 ?cW3 ?kW3 ?aW4 ?iW4 ?lW4 ?cW4 ?kW4 ?ty1 ?su1_1 ?su2_1 ?se1_1 ?su3_1 ?su4_1 ?mc0 ?mv0 ?mh0 ?mn0 ?mt0 ?tq0
    (case a0 => k_is)
    (case l0 => k_is)
    (case c0 => k_is)
    (case k0 => k_is)
    (case a1 => k_is)
    (case l1 => k_is)
    (case c1 => k_is)
    (case k1 => k_is)
    (case a2 => k_is)
    (case l2 => k_is)
    (case c2 => k_is)
    (case k2 => k_is)
    (case a3 => k_is)
    (case l3 => k_is)
    (case c3 => k_is)
    (case k3 => k_is)
    (case a4 => k_is)
    (case l4 => k_is)
    (case c4 => k_is)
    (case k4 => k_is)
    (case a5 => k_is)
    (case l5 => k_is)
    (case c5 => k_is)
    (case k5 => k_is)
    (case a6 => k_is)
    (case l6 => k_is)
    (case c6 => k_is)
    (case k6 => k_is)
    (case a7 => k_is)
    (case l7 => k_is)
    (case c7 => k_is)
    (case k7 => k_is)
    (case a8 => k_is)
    (case l8 => k_is)
    (case c8 => k_is)
    (case k8 => k_is)
    (case a9 => k_is)
    (case l9 => k_is)
    (case c9 => k_is)
    (case k9 => k_is)
    (case a10 => k_is)
    (case l10 => k_is)
    (case c10 => k_is)
    (case k10 => k_is)
    (case a11 => k_is)
    (case l11 => k_is)
    (case c11 => k_is)
    (case k11 => k_is)
    (case a12 => k_is)
    (case l12 => k_is)
    (case c12 => k_is)
    (case k12 => k_is)
    (case a13 => k_is)
    (case l13 => k_is)
    (case c13 => k_is)
    (case k13 => k_is)
    (case a14 => k_is)
    (case l14 => k_is)
    (case c14 => k_is)
    (case k14 => k_is)
    (case a15 => k_is)
    (case l15 => k_is)
    (case c15 => k_is)
    (case k15 => k_is)
    (case a16 => k_is)
    (case l16 => k_is)
    (case c16 => k_is)
    (case k16 => k_is)
    (case a17 => k_is)
    (case l17 => k_is)
    (case c17 => k_is)
    (case k17 => k_is)
    (case a18 => k_is)
    (case l18 => k_is)
    (case c18 => k_is)
    (case k18 => k_is)
    (case a19 => k_is)
    (case l19 => k_is)
    (case c19 => k_is)
    (case k19 => k_is)
    (case a20 => k_is)
    (case l20 => k_is)
    (case c20 => k_is)
    (case k20 => k_is)
    (case a21 => k_is)
    (case l21 => k_is)
    (case c21 => k_is)
    (case k21 => k_is)
    (case a22 => k_is)
    (case l22 => k_is)
    (case c22 => k_is)
    (case k22 => k_is)
    (case a23 => k_is)
    (case l23 => k_is)
    (case c23 => k_is)
    (case k23 => k_is)
    (case a24 => k_is)
    (case l24 => k_is)
    (case c24 => k_is)
    (case k24 => k_is)
    (case a25 => k_is)
    (case l25 => k_is)
    (case c25 => k_is)
    (case k25 => k_is)
    (case a26 => k_is)
    (case l26 => k_is)
    (case c26 => k_is)
    (case k26 => k_is)
    (case a27 => k_is)
    (case l27 => k_is)
    (case c27 => k_is)
    (case k27 => k_is)
    (case a28 => k_is)
    (case l28 => k_is)
    (case c28 => k_is)
    (case k28 => k_is)
    (case a29 => k_is)
    (case l29 => k_is)
    (case c29 => k_is)
    (case k29 => k_is)
    (case a30 => k_is)
    (case l30 => k_is)
    (case c30 => k_is)
    (case k30 => k_is)
    (case a31 => k_is)
    (case l31 => k_is)
    (case c31 => k_is)
    (case k31 => k_is)
    (case a32 => k_is)
    (case l32 => k_is)
    (case c32 => k_is)
    (case k32 => k_is)
    (case a33 => k_is)
    (case l33 => k_is)
    (case c33 => k_is)
    (case k33 => k_is)
    (case a34 => k_is)
    (case l34 => k_is)
    (case c34 => k_is)
    (case k34 => k_is)
    (case a35 => k_is)
    (case l35 => k_is)
    (case c35 => k_is)
    (case k35 => k_is)
    (case z0 => k_is)
    (case z1 => k_is)
    (case z2 => k_is)
    (case z3 => k_is)
    (case z4 => k_is)
    (case z5 => k_is)
    (case z6 => k_is)
    (case z7 => k_is)
    (case z8 => k_is)
    (case z9 => k_is)
    (case z10 => k_is)
    (case z11 => k_is)
    (case q0 => k_is)
    (case q1 => k_is)
    (case q2 => k_is)
    (case q3 => k_is)
    (case q4 => k_is)
    (case e1 => k_is)
    (case e2 => k_is)
    (case e3 => k_is)
    (case e4 => k_is)
    (case pg1 => k_is)
    (case hd1 => k_is)
    (case po1 => k_is)
    (case sa1 => k_is)
    (case mk1 => k_is)
    (case kc1 => k_is)
    (case ha1 => k_is)
    (case hm1 => k_is)
    (case hnZ => k_is)
    (case htZ => k_is)
    (case na1number => k_is)
    (case aI1 => k_is)
    (case iI1 => k_is)
    (case lI1 => k_is)
    (case cI1 => k_is)
    (case kI1 => k_is)
    (case pg2 => k_is)
    (case hd2 => k_is)
    (case po2 => k_is)
    (case sa2 => k_is)
    (case mk2 => k_is)
    (case kc2 => k_is)
    (case ha2 => k_is)
    (case hm2 => k_is)
    (case na2place => k_is)
    (case na2left => k_is)
    (case aI2 => k_is)
    (case iI2 => k_is)
    (case lI2 => k_is)
    (case cI2 => k_is)
    (case kI2 => k_is)
    (case pg3 => k_is)
    (case hd3 => k_is)
    (case po3 => k_is)
    (case sa3 => k_is)
    (case mk3 => k_is)
    (case kc3 => k_is)
    (case ha3 => k_is)
    (case hm3 => k_is)
    (case na3row => k_is)
    (case na3carries => k_is)
    (case aI3 => k_is)
    (case iI3 => k_is)
    (case lI3 => k_is)
    (case cI3 => k_is)
    (case kI3 => k_is)
    (case pg4 => k_is)
    (case hd4 => k_is)
    (case po4 => k_is)
    (case sa4 => k_is)
    (case mk4 => k_is)
    (case kc4 => k_is)
    (case ha4 => k_is)
    (case hm4 => k_is)
    (case na4row => k_is)
    (case na4carries => k_is)
    (case aI4 => k_is)
    (case iI4 => k_is)
    (case lI4 => k_is)
    (case cI4 => k_is)
    (case kI4 => k_is)
    (case aW1 => k_is)
    (case iW1 => k_is)
    (case lW1 => k_is)
    (case cW1 => k_is)
    (case kW1 => k_is)
    (case aW2 => k_is)
    (case iW2 => k_is)
    (case lW2 => k_is)
    (case cW2 => k_is)
    (case kW2 => k_is)
    (case aW3 => k_is)
    (case iW3 => k_is)
    (case lW3 => k_is)
    (case cW3 => k_is)
    (case kW3 => k_is)
    (case aW4 => k_is)
    (case iW4 => k_is)
    (case lW4 => k_is)
    (case cW4 => k_is)
    (case kW4 => k_is)
    (case ty1 => k_is)
    (case su1_1 => k_is)
    (case su2_1 => k_is)
    (case se1_1 => k_is)
    (case su3_1 => k_is)
    (case su4_1 => k_is)
    (case mc0 => k_is)
    (case mv0 => rfl)
    (case mh0 => kernel_rfl)
    (case mn0 => rfl)
    (case mt0 => decide)
    (case tq0 => decide +kernel)
