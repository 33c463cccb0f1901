import PyProof.Rows.All
import Wide.All
import OpenK.AllK
import Wide.FinOn
import HandS.ForMost
import PyProof.LongRange
import HandS.SetFor
import HandS.Strs
import HandS.ForExc
import HandS.IsInst
import HandS.Style
import HandS.Wide
import HandS.Evl
import HandS.Conv
import HandS.ExcIs
import KE.DatumOrd
import PyProof.ReprRoads
import PyProof.Rows.RegStrFacts
import PySem.Challenge.RW_brokenbase_k14_whole_tree
set_option Elab.async false
set_option linter.all false
set_option maxRecDepth 100000
set_option maxHeartbeats 4000000
set_option synthInstance.checkSynthOrder false
set_option pp.maxSteps 600
set_option exponentiation.threshold 1000000
namespace Bb
open PySem PySem.Spec L2

/-! ### what stands where, found by instances -/
class SM (H : Hp) (G : outParam Hp) : Prop where s : ∀ b o, G b = some o → H b = some o
class SX (H G : Hp) : Prop where s : ∀ b o, G b = some o → H b = some o
class OB (H : Hp) (p : Addr) (o : outParam HO) : Prop where h : H p = some o
class FR0 (H : Hp) (p : Addr) : Prop where h : H p = none
class NE (q p : Addr) : Prop where h : q ≠ p
/-- all but p stands as before -/
class MU (H : Hp) (G : outParam Hp) (p : outParam Addr) : Prop where s : ∀ b o, b ≠ p → G b = some o → H b = some o
class IR (K : PySem.W.Frag) (H : Hp) (a : Addr) (ns : outParam (List Int)) : Prop where h : SqL K H a (ns.map V.int)
theorem free_back {H G : Hp} {p : Addr} (e : SX H G) (h : H p = none) : G p = none := by
  cases q : G p with
  | none => rfl
  | some o => rw [e.s p o q] at h; cases h
instance SX.refl (H : Hp) : SX H H := ⟨fun _ _ h => h⟩
instance (priority := 200) SX.step {H M G : Hp} [a : SM H M] [b : SX M G] : SX H G := ⟨fun c o h => a.s c o (b.s c o h)⟩
instance (priority := 100) SM.mut {H G M : Hp} {p : Addr} [a : MU H G p] [f : FR0 M p] [b : SX G M] : SM H M := ⟨fun c o h => a.s c o (fun e => by subst e; rw [f.h] at h; cases h) (b.s c o h)⟩
theorem OB.mono' {H G : Hp} {q : Addr} {u : HO} (a : SX H G) (h : OB G q u) : OB H q u := ⟨a.s q u h.h⟩
instance (priority := 200) OB.mono {H G : Hp} {q : Addr} {u : HO} [a : SM H G] [b : OB G q u] : OB H q u := ⟨a.s q u b.h⟩
instance (priority := 100) OB.ne {H G : Hp} {p q : Addr} {u : HO} [a : MU H G p] [n : NE q p] [b : OB G q u] : OB H q u := ⟨a.s q u n.h b.h⟩
instance (priority := 200) IR.mono {K : PySem.W.Frag} {H G : Hp} {q : Addr} {u : List Int} [a : SM H G] [b : IR K G q u] : IR K H q u := ⟨Same.seq a.s b.h⟩
instance NE.a {M : Hp} {q p : Addr} {o : HO} [a : FR0 M q] [b : OB M p o] : NE q p := ⟨fun e => by have := b.h; rw [← e, a.h] at this; cases this⟩
instance NE.b {M : Hp} {q p : Addr} {o : HO} [a : FR0 M p] [b : OB M q o] : NE q p := ⟨fun e => by have := b.h; rw [e, a.h] at this; cases this⟩
theorem smx {H G : Hp} [a : SX H G] : SM H G := ⟨a.s⟩
theorem frx {M H : Hp} {p : Addr} [a : FR0 M p] [b : SX M H] : FR0 H p := ⟨free_back b a.h⟩
class FR (H : Hp) (p : Addr) : Prop where h : H p = none
instance FR.of {M H : Hp} {p : Addr} [a : FR0 M p] [b : SX M H] : FR H p := ⟨free_back b a.h⟩
theorem OB.sq {K : PySem.W.Frag} {H : Hp} {p : Addr} {xs : List V} (h : OB H p (.lst xs)) : SqL K H p xs := SqL.of h.h
theorem OB.st {K : PySem.W.Frag} {H : Hp} {p : Addr} {xs : List V} (h : OB H p (.tup xs)) : SqT K H p xs := SqT.of h.h
theorem OB.new {H : Hp} {p : Addr} {o : HO} : OB (upd H p o) p o := ⟨upd_same⟩
theorem SM.new {H : Hp} {p : Addr} {o : HO} (h : H p = none) : SM (upd H p o) H := ⟨fun b u e => by rw [upd_ne (ne_of_none e h)]; exact e⟩
theorem MU.new {H : Hp} {p : Addr} {o : HO} : MU (upd H p o) H p := ⟨fun b u n e => by rw [upd_ne n]; exact e⟩

/-! ### readings, step by step -/
section
variable {K : PySem.W.Frag} {σ : L2.St} {H : Hp} {Q : VK} {D : Ends} {t u : TS} {ta tb tc te : TE} {x y v : V} {i : Nat} {r r' : R2}
/-- continuations by name -/
def kBl (Q : Bool → Hp → Prop) : VK := fun x H => ∃ k, x = .bl k ∧ Q k H
def kNew (Q : VK) (o : HO) (H : Hp) : Prop := ∀ p H', SM H' H → FR0 H p → OB H' p o → Q (.ref p) H'
theorem kNew.of {o : HO} (h : kNew Q o H) : ∀ p, H p = none → Q (.ref p) (upd H p o) := fun p hp => h p _ (SM.new hp) ⟨hp⟩ OB.new
theorem kret {o : HO} {H' : Hp} {p : Addr} (q : kNew Q o H) [a : SX H' H] [b : FR H p] [c : OB H' p o] : Q (.ref p) H' := q p H' smx ⟨b.h⟩ c
theorem rd_seq (h : t { D with nx := u D } σ H) : tSeq t u D σ H := h
theorem rd_seqM {a : L2.St → Hp → Prop} {b : VK} {c d : L2.St → Hp → Prop} (h : t (Ends.mk (u (Ends.mk a b c d)) b c d) σ H) : tSeq t u (Ends.mk a b c d) σ H := h
theorem rd_next (h : D.nx σ H) : tNext D σ H := h
theorem rd_nx {a : L2.St → Hp → Prop} {b : VK} {c d : L2.St → Hp → Prop} (h : a σ H) : (Ends.mk a b c d).nx σ H := h
theorem rd_rt {a : L2.St → Hp → Prop} {b : VK} {c d : L2.St → Hp → Prop} (h : b v H) : (Ends.mk a b c d).rt v H := h
theorem rd_bk {a : L2.St → Hp → Prop} {b : VK} {c d : L2.St → Hp → Prop} (h : c σ H) : (Ends.mk a b c d).bk σ H := h
theorem rd_ct {a : L2.St → Hp → Prop} {b : VK} {c d : L2.St → Hp → Prop} (h : d σ H) : (Ends.mk a b c d).ct σ H := h
theorem rd_asg {g : TG} (h : te σ H fun x H1 => g x σ H1 D.nx) : tAsg te g D σ H := h
theorem rd_gname {N : L2.St → Hp → Prop} (h : N (σ.set i (some v)) H) : gName i v σ H N := h
theorem rd_drop (h : te σ H fun _ H1 => D.nx σ H1) : tDrop te D σ H := h
theorem rd_ret (h : te σ H D.rt) : tRet te D σ H := h
theorem rd_retn (h : D.rt .non H) : tRetN D σ H := h
theorem rd_brk (h : D.bk σ H) : tBreak D σ H := h
theorem rd_cont (h : D.ct σ H) : tCont D σ H := h
theorem rd_ifs {c : TT} (h : c σ H fun b H1 => if b = true then t D σ H1 else u D σ H1) : tIfS c t u D σ H := h
theorem rd_if {c : TT} (h : c σ H fun b H1 => if b = true then ta σ H1 Q else tb σ H1 Q) : tIf c ta tb σ H Q := h
theorem rd_var (h : σ[i]? = some (some v)) (q : Q v H) : tVar i σ H Q := ⟨v, h, q⟩
theorem rd_c (q : Q v H) : tC v σ H Q := q
theorem rd_op (h : ta σ H fun x H1 => tb σ H1 fun y H2 => r x y H2 Q) : tOp r ta tb σ H Q := h
theorem rd_un {r : V → Hp → VK → Prop} (h : ta σ H fun x H1 => r x H1 Q) : tUn r ta σ H Q := h
theorem rd_I0 {g : Int → Int → V} {a b : Int} (q : Q (g a b) H) : rI0 g (.int a) (.int b) H Q := ⟨a, b, rfl, rfl, q⟩
theorem rd_U {g : Int → V} {a : Int} (q : Q (g a) H) : rU g (.int a) H Q := ⟨a, rfl, q⟩
theorem rd_I {C : Int → Int → Prop} {g : Int → Int → V} {a b : Int} (c : C a b) (q : Q (g a b) H) : rI C g (.int a) (.int b) H Q := ⟨a, b, rfl, rfl, c, q⟩
theorem rd_eqI {a b : Int} (q : Q (.bl (decide (a = b))) H) : rEq (.int a) (.int b) H Q := by
  refine ⟨rfl, ?_⟩
  have e : decide (V.int a = V.int b) = decide (a = b) := by simp
  rw [e]; exact q
theorem rd_neI {a b : Int} (q : Q (.bl (decide (a ≠ b))) H) : rNe (.int a) (.int b) H Q := by
  refine ⟨rfl, ?_⟩
  have e : (!decide (V.int a = V.int b)) = decide (a ≠ b) := by simp
  rw [e]; exact q
theorem rd_eqB {a b : Bool} (q : Q (.bl (decide (a = b))) H) : rEq (.bl a) (.bl b) H Q := by
  refine ⟨rfl, ?_⟩
  have e : decide (V.bl a = V.bl b) = decide (a = b) := by simp
  rw [e]; exact q
theorem rd_neB {a b : Bool} (q : Q (.bl (decide (a ≠ b))) H) : rNe (.bl a) (.bl b) H Q := by
  refine ⟨rfl, ?_⟩
  have e : (!decide (V.bl a = V.bl b)) = decide (a ≠ b) := by simp
  rw [e]; exact q
theorem rd_cb {f : List V → Hp → VK → Prop} {t : TA} (h : t σ H fun vs H1 => f vs H1 Q) : tCB f t σ H Q := h
theorem rd_nil {R : List V → Hp → Prop} (q : R [] H) : tNil σ H R := q
theorem rd_cons {tr : TA} {R : List V → Hp → Prop} (h : ta σ H fun x H1 => tr σ H1 fun xs H2 => R (x :: xs) H2) : tCons ta tr σ H R := h
theorem small_of {n : Nat} (h : n ≤ 100000) : n ≤ sizeLine := Nat.le_trans h (by decide)
theorem slt_of {n : Nat} (h : n < 100000) : n < sizeLine := Nat.lt_of_lt_of_le h (by decide)
def kTup (Q : VK) (xs : List V) (H : Hp) : Prop := xs.length ≤ 100000 ∧ kNew Q (.tup xs) H
def kLst (Q : VK) (xs : List V) (H : Hp) : Prop := xs.length ≤ 100000 ∧ kNew Q (.lst xs) H
end
/-! ### rules whose readings name what they ask -/
section
variable {X : Cx} {e : Expr} {es : List Expr} {te : TE} {t : TA} {pos : Pos}
def upE (t : TE) : TE := fun σ H Q => ∃ R : VK, t σ H R ∧ ∀ v H', R v H' → Q v H'
def upA (t : TA) : TA := fun σ H Q => ∃ R : List V → Hp → Prop, t σ H R ∧ ∀ v H', R v H' → Q v H'
theorem pe_up (h : PE X e te) : PE X e (upE te) := ⟨fun pins s σ H Q I ⟨R, a, m⟩ => thn (h.run pins s σ H R I a) fun v s' ⟨x, H', I', r, q⟩ => ⟨x, H', I', r, m _ _ q⟩⟩
theorem pa_up (h : PA X es t) : PA X es (upA t) := ⟨fun pos pins s σ H Q I ⟨R, a, m⟩ => thn (h.run pos pins s σ H R I a) fun v s' ⟨x, H', I', r, q⟩ => ⟨x, H', I', r, m _ _ q⟩⟩
theorem pe_weak {te' : TE} (h : PE X e te) (w : ∀ σ H Q, te' σ H Q → te σ H Q) : PE X e te' := ⟨fun pins s σ H Q I a => h.run pins s σ H Q I (w _ _ _ a)⟩
theorem op_weak {f : Value → Value → Sem Value} {r r' : R2} (h : OpR X f r) (w : ∀ x y H Q, r' x y H Q → r x y H Q) : OpR X f r' := fun pins s σ H x y v u Q I rx ry a => h pins s σ H x y v u Q I rx ry (w _ _ _ _ a)
theorem cr_weak {f : Value} {r r' : List V → Hp → VK → Prop} (h : CallR X f r) (w : ∀ x H Q, r' x H Q → r x H Q) : CallR X f r' := fun pins s σ H x v Q I rx a => h pins s σ H x v Q I rx (w _ _ _ a)
theorem mt_weak {id : String} {r r' : V → List V → Hp → VK → Prop} (h : MtR X id r) (w : ∀ x y H Q, r' x y H Q → r x y H Q) : MtR X id r' := fun pins s σ H x xs v us Q I rx ry a => h pins s σ H x xs v us Q I rx ry (w _ _ _ _ a)
def tTupB (t : TA) : TE := fun σ H Q => t σ H (kTup Q)
def tLstB (t : TA) : TE := fun σ H Q => t σ H (kLst Q)
theorem pe_tupB {k} (h : PA X es t) : PE X (.Tuple es k pos) (tTupB t) := pe_weak (pe_tup (pa_up h)) fun σ H Q a => ⟨kTup Q, a, fun xs H ⟨a, b⟩ => ⟨small_of a, b.of⟩⟩
theorem pe_lstB (h : PA X es t) : PE X (.List es pos) (tLstB t) := pe_weak (pe_lst (pa_up h)) fun σ H Q a => ⟨kLst Q, a, fun xs H ⟨a, b⟩ => ⟨small_of a, b.of⟩⟩
def kRev (Q : VK) : VK := fun x H => ∃ a xs, x = .ref a ∧ OB H a (.lst xs) ∧ kNew Q (.lst xs.reverse) H
def tRevB (te : TE) : TE := fun σ H Q => te σ H (kRev Q)
theorem pe_revB {k : Nat} {p1 p2 p3 : Pos} (h : PE X e te) : PE X (.Subscript e (.Slice none none (some (.UnaryOp .USub (.Constant (.int 1) k p1) p2)) p3) pos) (tRevB te) :=
  pe_weak (pe_revL (pe_up h)) fun σ H Q a => ⟨kRev Q, a, fun v H' ⟨a, xs, e, o, k⟩ => ⟨a, xs, e, o.sq, k.of⟩⟩
def rSlB : V → Option Int → Option Int → Hp → VK → Prop := fun x lo hi H Q => ∃ a xs, x = .ref a ∧ OB H a (.lst xs) ∧ kNew Q (.lst (cutV xs lo hi)) H
theorem sl_listB : SlR X rSlB := fun pins s σ H x v vl vu lo hi sl Q I rx hs pl pu ⟨a, xs, e, o, k⟩ => sl_list pins s σ H x v vl vu lo hi sl Q I rx hs pl pu ⟨a, xs, e, o.sq, k.of⟩
def rIxLB : R2 := fun x y H Q => ∃ p xs i v, x = .ref p ∧ y = .int i ∧ OB H p (.lst xs) ∧ atI xs i = some v ∧ Q v H
def rIxTB : R2 := fun x y H Q => ∃ p xs i v, x = .ref p ∧ y = .int i ∧ OB H p (.tup xs) ∧ atI xs i = some v ∧ Q v H
def rIxRB (K : PySem.W.Frag) : R2 := fun x y H Q => ∃ p ns i v, x = .ref p ∧ y = .int i ∧ IR K H p ns ∧ atI (ns.map V.int) i = some v ∧ Q v H
theorem ix_listB : IxR X rIxLB := fun v0 s0 pins s σ H x y v u Q I rx ry ⟨p, xs, i, z, a, b, o, c, q⟩ => ix_list v0 s0 pins s σ H x y v u Q I rx ry ⟨p, xs, i, z, a, b, o.sq, c, q⟩
theorem ix_tupB : IxR X rIxTB := fun v0 s0 pins s σ H x y v u Q I rx ry ⟨p, xs, i, z, a, b, o, c, q⟩ => ix_tup v0 s0 pins s σ H x y v u Q I rx ry ⟨p, xs, i, z, a, b, o.st, c, q⟩
theorem ix_rdB {K : PySem.W.Frag} (hK : X.K = K) : IxR X (rIxRB K) := by
  subst hK
  exact fun v0 s0 pins s σ H x y v u Q I rx ry ⟨p, ns, i, z, a, b, o, c, q⟩ => ix_list v0 s0 pins s σ H x y v u Q I rx ry ⟨p, _, i, z, a, b, o.h, c, q⟩
def rCatB : R2 := fun x y H Q => ∃ l b xs zs, x = .ref l ∧ y = .ref b ∧ OB H l (.lst xs) ∧ OB H b (.lst zs) ∧ xs.length + zs.length ≤ 100000 ∧ kNew Q (.lst (xs ++ zs)) H
theorem op_catB : OpR X (binaryOp .Add) rCatB := op_weak op_cat fun x y H Q ⟨l, b, xs, zs, a, c, o, p, n, k⟩ => ⟨l, b, xs, zs, a, c, o.h, p.h, small_of n, k.of⟩
def rRepB : R2 := fun x y H Q => ∃ l k xs, x = .ref l ∧ y = .int k ∧ OB H l (.lst xs) ∧ -(2 ^ 63) ≤ k ∧ k < 2 ^ 63 ∧ xs.length * k.toNat ≤ 100000 ∧ kNew Q (.lst (List.replicate k.toNat xs).flatten) H
def kMut (Q : VK) (w : V) (l : Addr) (o : HO) (H : Hp) : Prop := ∀ H', MU H' H l → OB H' l o → Q w H'
def rAppendB : V → List V → Hp → VK → Prop := fun x vs H Q => ∃ l xs y, x = .ref l ∧ vs = [y] ∧ OB H l (.lst xs) ∧ xs.length < 100000 ∧ kMut Q .non l (.lst (xs ++ [y])) H
theorem mt_appendB : MtR X "list.append" rAppendB := mt_weak mt_append fun x vs H Q ⟨l, xs, y, a, b, o, n, k⟩ => ⟨l, xs, y, a, b, o.h, slt_of n, k _ MU.new OB.new⟩
def rPopB : V → List V → Hp → VK → Prop := fun x vs H Q => ∃ l xs y, x = .ref l ∧ vs = [] ∧ OB H l (.lst xs) ∧ xs[xs.length - 1]? = some y ∧ kMut Q y l (.lst xs.dropLast) H
theorem mt_popB : MtR X "list.pop" rPopB := mt_weak mt_pop fun x vs H Q ⟨l, xs, y, a, b, o, n, k⟩ => ⟨l, xs, y, a, b, o.h, n, k _ MU.new OB.new⟩
def rReverseB : V → List V → Hp → VK → Prop := fun x vs H Q => ∃ l xs, x = .ref l ∧ vs = [] ∧ OB H l (.lst xs) ∧ kMut Q .non l (.lst xs.reverse) H
theorem mt_reverseB : MtR X "list.reverse" rReverseB := mt_weak mt_reverse fun x vs H Q ⟨l, xs, a, b, o, k⟩ => ⟨l, xs, a, b, o.h, k _ MU.new OB.new⟩
def rClearB : V → List V → Hp → VK → Prop := fun x vs H Q => ∃ l xs, x = .ref l ∧ vs = [] ∧ OB H l (.lst xs) ∧ kMut Q .non l (.lst []) H
theorem mt_clearB : MtR X "list.clear" rClearB := mt_weak mt_clear fun x vs H Q ⟨l, xs, a, b, o, k⟩ => ⟨l, xs, a, b, o.h, k _ MU.new OB.new⟩
def rExtendB : V → List V → Hp → VK → Prop := fun x vs H Q => ∃ l b xs zs, x = .ref l ∧ vs = [.ref b] ∧ OB H l (.lst xs) ∧ OB H b (.lst zs) ∧ xs.length + zs.length ≤ 100000 ∧ kMut Q .non l (.lst (xs ++ zs)) H
theorem mt_extendB : MtR X "list.extend" rExtendB := mt_weak mt_extend fun x vs H Q ⟨l, b, xs, zs, a, c, o, p, n, k⟩ => ⟨l, b, xs, zs, a, c, o.h, p.h, small_of n, k _ MU.new OB.new⟩
/-- calls of built-ins -/
def rLenB : List V → Hp → VK → Prop := fun vs H Q => ∃ p xs, vs = [.ref p] ∧ OB H p (.lst xs) ∧ Q (.int (xs.length : Int)) H
def rLenTB : List V → Hp → VK → Prop := fun vs H Q => ∃ p xs, vs = [.ref p] ∧ OB H p (.tup xs) ∧ Q (.int (xs.length : Int)) H
def rLenRB (K : PySem.W.Frag) : List V → Hp → VK → Prop := fun vs H Q => ∃ p ns, vs = [.ref p] ∧ IR K H p ns ∧ Q (.int (ns.length : Int)) H
theorem cr_lenB : CallR X (.builtin "len") rLenB := cr_weak call_len_seq fun vs H Q ⟨p, xs, e, o, q⟩ => ⟨p, xs, e, .inl o.sq, q⟩
theorem cr_lenTB : CallR X (.builtin "len") rLenTB := cr_weak call_len_seq fun vs H Q ⟨p, xs, e, o, q⟩ => ⟨p, xs, e, .inr o.st, q⟩
theorem cr_lenRB {K : PySem.W.Frag} (hK : X.K = K) : CallR X (.builtin "len") (rLenRB K) := by
  subst hK
  exact cr_weak call_len_seq fun vs H Q ⟨p, ns, e, o, q⟩ => ⟨p, _, e, .inl o.h, by rw [List.length_map]; exact q⟩
def rAllB : List V → Hp → VK → Prop := fun vs H Q => ∃ (a : Addr) (bs : List Bool), vs = [V.ref a] ∧ OB H a (.lst (bs.map V.bl)) ∧ Q (.bl (bs.all id)) H
def rAnyB : List V → Hp → VK → Prop := fun vs H Q => ∃ (a : Addr) (bs : List Bool), vs = [V.ref a] ∧ OB H a (.lst (bs.map V.bl)) ∧ Q (.bl (bs.any id)) H
theorem cr_allB (hc : X.calm = true) : CallR X (.builtin "all") rAllB := cr_weak (cr_all hc) fun vs H Q ⟨p, xs, e, o, q⟩ => ⟨p, xs, e, o.sq, q⟩
theorem cr_anyB (hc : X.calm = true) : CallR X (.builtin "any") rAnyB := cr_weak (cr_any hc) fun vs H Q ⟨p, xs, e, o, q⟩ => ⟨p, xs, e, o.sq, q⟩
def rSumB : List V → Hp → VK → Prop := fun vs H Q => ∃ (a : Addr) (ns : List Int), vs = [V.ref a] ∧ OB H a (.lst (ns.map V.int)) ∧ Q (.int ns.sum) H
theorem cr_sumB (hc : X.calm = true) : CallR X (.builtin "sum") rSumB := cr_weak (cr_sum hc) fun vs H Q ⟨p, xs, e, o, q⟩ => ⟨p, xs, e, o.sq, q⟩
def rMax2B : List V → Hp → VK → Prop := fun vs H Q => ∃ i j, vs = [.int i, .int j] ∧ Q (.int (max i j)) H
def rMin2B : List V → Hp → VK → Prop := fun vs H Q => ∃ i j, vs = [.int i, .int j] ∧ Q (.int (min i j)) H
def rAbsB : List V → Hp → VK → Prop := fun vs H Q => ∃ i : Int, vs = [.int i] ∧ Q (.int (i.natAbs : Int)) H
theorem cr_max2B (hc : X.calm = true) : CallR X (.builtin "max") rMax2B := cr_weak (call_max2 hc) fun vs H Q ⟨i, j, e, q⟩ => ⟨i, j, e, by
  have z : (if j > i then j else i) = max i j := by split <;> omega
  rw [z]; exact q⟩
theorem cr_min2B (hc : X.calm = true) : CallR X (.builtin "min") rMin2B := cr_weak (call_min2 hc) fun vs H Q ⟨i, j, e, q⟩ => ⟨i, j, e, by
  have z : (if j < i then j else i) = min i j := by split <;> omega
  rw [z]; exact q⟩
theorem cr_absB : CallR X (.builtin "abs") rAbsB := cr_weak call_abs fun vs H Q ⟨i, e, q⟩ => ⟨i, e, by
  have z : (if i < 0 then -i else i) = (i.natAbs : Int) := by split <;> omega
  rw [z]; exact q⟩
/-- isinstance of a class of the written part or a built-in one: the answer b by the kind's own table -/
class TY (K : PySem.W.Frag) (H : Hp) (x : V) (t : outParam Value) : Prop where h : TyX K H x t
instance {K H i} : TY K H (.int i) (.type "int") := ⟨.base (.int i)⟩
instance {K H i} : TY K H (.bl i) (.type "bool") := ⟨.base (.bl i)⟩
instance {K H i} : TY K H (.str i) (.type "str") := ⟨.base (.str i)⟩
instance {K H} : TY K H .non (.type "NoneType") := ⟨.base .non⟩
instance {K H a xs} [o : OB H a (.lst xs)] : TY K H (.ref a) (.type "list") := ⟨.base (.lst o.h)⟩
instance {K H a xs} [o : OB H a (.tup xs)] : TY K H (.ref a) (.type "tuple") := ⟨.base (.tup o.h)⟩
def rIsiB (K : PySem.W.Frag) : List V → Hp → VK → Prop := fun xs H Q => ∃ (x c : V) (t u : Value) (b : Bool), xs = [x, c] ∧ ClsV c u ∧ TY K H x t ∧ PySem.W.kitOne K t u = some b ∧ Q (.bl b) H
theorem cr_isiB {K : PySem.W.Frag} (hK : X.K = K) : CallR X (.builtin "isinstance") (rIsiB K) := by
  subst hK
  exact cr_weak call_isi fun vs H Q ⟨x, c, t, u, b, e, k, y, z, q⟩ => ⟨x, c, t, u, b, e, k, y.h, z, q⟩
/-- == of data -/
class DP (K : PySem.W.Frag) (H : Hp) (v : V) (d : outParam PyData) : Prop where
  h : Dp K H v d
  s : SeqAt.shaped d = true
def rEqB (K : PySem.W.Frag) : R2 := fun x y H Q => ∃ d e, DP K H x d ∧ DP K H y e ∧ Q (.bl (PyData.eqv d e)) H
def rNeB (K : PySem.W.Frag) : R2 := fun x y H Q => ∃ d e, DP K H x d ∧ DP K H y e ∧ Q (.bl (!PyData.eqv d e)) H
theorem op_eqB {K : PySem.W.Frag} (hK : X.K = K) (hu : X.A.units + 64 < cLine) : OpR X (compareOp .Eq) (rEqB K) := by
  subst hK
  exact op_weak (op_eqD hu) fun x y H Q ⟨d, e, a, b, q⟩ => ⟨d, e, a.h, b.h, a.s, b.s, q⟩
theorem op_neB {K : PySem.W.Frag} (hK : X.K = K) (hu : X.A.units + 64 < cLine) : OpR X (compareOp .NotEq) (rNeB K) := by
  subst hK
  exact op_weak (op_neD hu) fun x y H Q ⟨d, e, a, b, q⟩ => ⟨d, e, a.h, b.h, a.s, b.s, q⟩
theorem pi_listK {K : PySem.W.Frag} (hK : X.K = K) {tg l : Expr} {tl : TE} (h : PE X l tl) : PI X tg l (iList K tl) := by
  subst hK
  exact pi_list h
theorem pi_tupK {K : PySem.W.Frag} (hK : X.K = K) {tg l : Expr} {tl : TE} (h : PE X l tl) : PI X tg l (iTup K tl) := by
  subst hK
  exact pi_tup h
/-- a, b = e -/
def gTupB (n : Nat) (t : TGs) : TG := fun v σ H Q => ∃ a xs, v = .ref a ∧ OB H a (.tup xs) ∧ xs.length = n ∧ t xs σ H Q
theorem pg_tupB {es : List Expr} {k} {t : TGs} {n : Nat} (hc : X.calm = true) (h : PGs X es t) (hn : (assignEach es X.env).length = n := by rfl) (hst : (assignEach es X.env).findIdx? (·.1) = none := by rfl) : PG X (.Tuple es k pos) (gTupB n t) := by
  have g := pg_tup (pos := pos) (k := k) hc h hn hst
  exact ⟨fun pins s σ H v u Q I r ⟨a, xs, e, o, l, q⟩ => g.run pins s σ H v u Q I r ⟨a, xs, e, o.st, l, q⟩⟩
end

/-! ### and how they are read -/
section
variable {K : PySem.W.Frag} {σ : L2.St} {H : Hp} {Q : VK} {D : Ends} {t u : TS} {ta tb tc te : TE} {x y v : V} {i : Nat} {r r' : R2} {p q : Addr} {xs ys : List V}
theorem rd_tupB {t : TA} (h : t σ H (kTup Q)) : tTupB t σ H Q := h
theorem rd_lstB {t : TA} (h : t σ H (kLst Q)) : tLstB t σ H Q := h
theorem rd_kTup (h : kNew Q (.tup xs) H) (l : xs.length ≤ 100000 := by simp) : kTup Q xs H := ⟨l, h⟩
theorem rd_kLst (h : kNew Q (.lst xs) H) (l : xs.length ≤ 100000 := by simp) : kLst Q xs H := ⟨l, h⟩
theorem rd_rev (h : te σ H (kRev Q)) : tRevB te σ H Q := h
theorem rd_kRev [o : OB H p (.lst xs)] (h : kNew Q (.lst xs.reverse) H) : kRev Q (.ref p) H := ⟨p, xs, rfl, o, h⟩
theorem rd_test (h : te σ H (kBl R)) : tTest te σ H R := h
theorem rd_tB (h : te σ H (kBl R)) : tB te σ H R := h
theorem rd_kBl {b : Bool} {R : Bool → Hp → Prop} (h : R b H) : kBl R (.bl b) H := ⟨b, rfl, h⟩
theorem rd_and {c d : TT} {R : Bool → Hp → Prop} (h : c σ H fun c H1 => if c = true then d σ H1 R else R false H1) : tAnd c d σ H R := h
theorem rd_or {c d : TT} {R : Bool → Hp → Prop} (h : c σ H fun c H1 => if c = true then R true H1 else d σ H1 R) : tOr c d σ H R := h
theorem rd_not {c : TT} {R : Bool → Hp → Prop} (h : c σ H fun c H1 => R (!c) H1) : tNot c σ H R := h
def kAnd (tb : TE) (σ : L2.St) (Q : VK) : VK := fun x H => ∃ c, x = .bl c ∧ if c = true then tb σ H Q else Q (.bl false) H
def kOr (tb : TE) (σ : L2.St) (Q : VK) : VK := fun x H => ∃ c, x = .bl c ∧ if c = true then Q (.bl true) H else tb σ H Q
def kNot (Q : VK) : VK := fun x H => ∃ c, x = .bl c ∧ Q (.bl (!c)) H
theorem rd_andV (h : ta σ H (kAnd tb σ Q)) : tAndV ta tb σ H Q := h
theorem rd_orV (h : ta σ H (kOr tb σ Q)) : tOrV ta tb σ H Q := h
theorem rd_notV (h : ta σ H (kNot Q)) : tNotV ta σ H Q := h
theorem rd_kAnd {b : Bool} (h : if b = true then tb σ H Q else Q (.bl false) H) : kAnd tb σ Q (.bl b) H := ⟨b, rfl, h⟩
theorem rd_kOr {b : Bool} (h : if b = true then Q (.bl true) H else tb σ H Q) : kOr tb σ Q (.bl b) H := ⟨b, rfl, h⟩
theorem rd_kNot {b : Bool} (h : Q (.bl (!b)) H) : kNot Q (.bl b) H := ⟨b, rfl, h⟩
theorem rd_isN (h : ta σ H fun x H1 => Q (.bl (decide (x = .non))) H1) : tIsN ta σ H Q := h
def kCh (r' : R2) (tc : TE) (y : V) (σ : L2.St) (Q : VK) : VK := fun z H => ∃ k, z = .bl k ∧ (if k = true then tc σ H fun w' H4 => r' y w' H4 Q else Q (.bl false) H)
theorem rd_chain (h : ta σ H fun x H1 => tb σ H1 fun y H2 => r x y H2 (kCh r' tc y σ Q)) : tChain r r' ta tb tc σ H Q := h
theorem rd_kCh {b : Bool} (h : if b = true then tc σ H fun w' H4 => r' y w' H4 Q else Q (.bl false) H) : kCh r' tc y σ Q (.bl b) H := ⟨b, rfl, h⟩
theorem rd_ixL [o : OB H p (.lst xs)] {z : Int} (h : atI xs z = some v) (q : Q v H) : rIxLB (.ref p) (.int z) H Q := ⟨p, xs, z, v, rfl, rfl, o, h, q⟩
theorem rd_ixT [o : OB H p (.tup xs)] {z : Int} (h : atI xs z = some v) (q : Q v H) : rIxTB (.ref p) (.int z) H Q := ⟨p, xs, z, v, rfl, rfl, o, h, q⟩
theorem rd_ixR {ns : List Int} [o : IR K H p ns] {z : Int} (h : atI (ns.map V.int) z = some v) (q : Q v H) : rIxRB K (.ref p) (.int z) H Q := ⟨p, ns, z, v, rfl, rfl, o, h, q⟩
theorem rd_cat [o : OB H p (.lst xs)] [o' : OB H q (.lst ys)] (l : xs.length + ys.length ≤ 100000) (h : kNew Q (.lst (xs ++ ys)) H) : rCatB (.ref p) (.ref q) H Q := ⟨p, q, xs, ys, rfl, rfl, o, o', l, h⟩
def kBM (K : PySem.W.Frag) (T : String) (r : V → List V → Hp → VK → Prop) (σ : L2.St) (t : TA) (Q : VK) : VK := fun x H1 => tyV K T x H1 ∧ t σ H1 fun xs H2 => r x xs H2 Q
theorem rd_bm {T : String} {f : V → List V → Hp → VK → Prop} {t : TA} (h : te σ H (kBM K T f σ t Q)) : tBM K T f te t σ H Q := h
theorem rd_kBM [o : OB H p (.lst xs)] {f : V → List V → Hp → VK → Prop} {t : TA} (h : t σ H fun xs H2 => f (.ref p) xs H2 Q) : kBM K "list" f σ t Q (.ref p) H := ⟨.inl ⟨rfl, _, o.sq⟩, h⟩
def kBM0 (K : PySem.W.Frag) (T : String) (r : V → List V → Hp → VK → Prop) (Q : VK) : VK := fun x H1 => tyV K T x H1 ∧ r x [] H1 Q
theorem rd_bm0 {T : String} {f : V → List V → Hp → VK → Prop} (h : te σ H (kBM0 K T f Q)) : tBM0 K T f te σ H Q := h
theorem rd_kBM0 [o : OB H p (.lst xs)] {f : V → List V → Hp → VK → Prop} (h : f (.ref p) [] H Q) : kBM0 K "list" f Q (.ref p) H := ⟨.inl ⟨rfl, _, o.sq⟩, h⟩
theorem rd_append [o : OB H p (.lst xs)] (l : xs.length < 100000) (h : kMut Q .non p (.lst (xs ++ [v])) H) : rAppendB (.ref p) [v] H Q := ⟨p, xs, v, rfl, rfl, o, l, h⟩
theorem rd_reverse [o : OB H p (.lst xs)] (h : kMut Q .non p (.lst xs.reverse) H) : rReverseB (.ref p) [] H Q := ⟨p, xs, rfl, rfl, o, h⟩
theorem rd_clear [o : OB H p (.lst xs)] (h : kMut Q .non p (.lst []) H) : rClearB (.ref p) [] H Q := ⟨p, xs, rfl, rfl, o, h⟩
theorem rd_extend [o : OB H p (.lst xs)] [o' : OB H q (.lst ys)] (l : xs.length + ys.length ≤ 100000) (h : kMut Q .non p (.lst (xs ++ ys)) H) : rExtendB (.ref p) [.ref q] H Q := ⟨p, q, xs, ys, rfl, rfl, o, o', l, h⟩
theorem rd_pop [o : OB H p (.lst xs)] (l : xs[xs.length - 1]? = some v) (h : kMut Q v p (.lst xs.dropLast) H) : rPopB (.ref p) [] H Q := ⟨p, xs, v, rfl, rfl, o, l, h⟩
theorem rd_len [o : OB H p (.lst xs)] (q : Q (.int (xs.length : Int)) H) : rLenB [.ref p] H Q := ⟨p, xs, rfl, o, q⟩
theorem rd_lenT [o : OB H p (.tup xs)] (q : Q (.int (xs.length : Int)) H) : rLenTB [.ref p] H Q := ⟨p, xs, rfl, o, q⟩
theorem rd_lenR {ns : List Int} [o : IR K H p ns] (q : Q (.int (ns.length : Int)) H) : rLenRB K [.ref p] H Q := ⟨p, ns, rfl, o, q⟩
theorem rd_all {bs : List Bool} [o : OB H p (.lst (bs.map V.bl))] (q : Q (.bl (bs.all id)) H) : rAllB [.ref p] H Q := ⟨p, bs, rfl, o, q⟩
theorem rd_any {bs : List Bool} [o : OB H p (.lst (bs.map V.bl))] (q : Q (.bl (bs.any id)) H) : rAnyB [.ref p] H Q := ⟨p, bs, rfl, o, q⟩
theorem rd_sum {ns : List Int} [o : OB H p (.lst (ns.map V.int))] (q : Q (.int ns.sum) H) : rSumB [.ref p] H Q := ⟨p, ns, rfl, o, q⟩
class KT (a b : String) (r : outParam Bool) : Prop where e : kitB a b = some r
instance : KT "int" "int" true := ⟨by decide +kernel⟩
instance : KT "int" "bool" false := ⟨by decide +kernel⟩
instance : KT "int" "list" false := ⟨by decide +kernel⟩
instance : KT "int" "tuple" false := ⟨by decide +kernel⟩
instance : KT "bool" "int" true := ⟨by decide +kernel⟩
instance : KT "bool" "bool" true := ⟨by decide +kernel⟩
instance : KT "bool" "list" false := ⟨by decide +kernel⟩
instance : KT "bool" "tuple" false := ⟨by decide +kernel⟩
instance : KT "str" "int" false := ⟨by decide +kernel⟩
instance : KT "str" "bool" false := ⟨by decide +kernel⟩
instance : KT "str" "list" false := ⟨by decide +kernel⟩
instance : KT "str" "tuple" false := ⟨by decide +kernel⟩
instance : KT "NoneType" "int" false := ⟨by decide +kernel⟩
instance : KT "NoneType" "bool" false := ⟨by decide +kernel⟩
instance : KT "NoneType" "list" false := ⟨by decide +kernel⟩
instance : KT "NoneType" "tuple" false := ⟨by decide +kernel⟩
instance : KT "list" "int" false := ⟨by decide +kernel⟩
instance : KT "list" "bool" false := ⟨by decide +kernel⟩
instance : KT "list" "list" true := ⟨by decide +kernel⟩
instance : KT "list" "tuple" false := ⟨by decide +kernel⟩
instance : KT "tuple" "int" false := ⟨by decide +kernel⟩
instance : KT "tuple" "bool" false := ⟨by decide +kernel⟩
instance : KT "tuple" "list" false := ⟨by decide +kernel⟩
instance : KT "tuple" "tuple" true := ⟨by decide +kernel⟩
instance : KT "dict" "int" false := ⟨by decide +kernel⟩
instance : KT "dict" "bool" false := ⟨by decide +kernel⟩
instance : KT "dict" "list" false := ⟨by decide +kernel⟩
instance : KT "dict" "tuple" false := ⟨by decide +kernel⟩
theorem rd_isi {b : Bool} {S T : String} [o : TY K H x (.type S)] [e : KT S T b] (q : Q (.bl b) H) : rIsiB K [x, .ty T] H Q := ⟨x, _, _, _, b, rfl, .ty T, o.h |> fun h => ⟨h⟩, kit_ty e.e, q⟩
theorem rd_eqD {d e : PyData} [a : DP K H x d] [b : DP K H y e] (q : Q (.bl (PyData.eqv d e)) H) : rEqB K x y H Q := ⟨d, e, a, b, q⟩
theorem rd_neD {d e : PyData} [a : DP K H x d] [b : DP K H y e] (q : Q (.bl (!PyData.eqv d e)) H) : rNeB K x y H Q := ⟨d, e, a, b, q⟩
theorem rd_gtup {n : Nat} {t : TGs} {R : L2.St → Hp → Prop} [o : OB H p (.tup xs)] (l : xs.length = n := by rfl) (h : t xs σ H R) : gTupB n t (.ref p) σ H R := ⟨p, xs, rfl, o, l, h⟩
theorem rd_gcons {g : TG} {gs : TGs} {vs : List V} {R : L2.St → Hp → Prop} (h : g v σ H fun σ' H' => gs vs σ' H' R) : gCons g gs (v :: vs) σ H R := ⟨v, vs, rfl, h⟩
theorem rd_gnil {R : L2.St → Hp → Prop} (h : R σ H) : gNil [] σ H R := ⟨rfl, h⟩
def kPar (i j : Nat) (σ : L2.St) (N : L2.St → Hp → Prop) : List V → Hp → Prop := fun vs H1 => ∃ v w, vs = [v, w] ∧ N ((σ.set i (some v)).set j (some w)) H1
theorem rd_par {j : Nat} {t : TA} (h : t σ H (kPar i j σ D.nx)) : tPar i j t D σ H := h
theorem rd_kPar {j : Nat} {N : L2.St → Hp → Prop} (h : N ((σ.set i (some x)).set j (some y)) H) : kPar i j σ N [x, y] H := ⟨x, y, rfl, h⟩
def kPar3 (i j l : Nat) (σ : L2.St) (N : L2.St → Hp → Prop) : List V → Hp → Prop := fun vs H1 => ∃ u v w, vs = [u, v, w] ∧ N (((σ.set i (some u)).set j (some v)).set l (some w)) H1
theorem rd_par3 {j l : Nat} {t : TA} (h : t σ H (kPar3 i j l σ D.nx)) : tPar3 i j l t D σ H := h
theorem rd_kPar3 {j l : Nat} {N : L2.St → Hp → Prop} (h : N (((σ.set i (some x)).set j (some y)).set l (some v)) H) : kPar3 i j l σ N [x, y, v] H := ⟨x, y, v, rfl, h⟩
theorem rd_T {b : Bool} {A B : Prop} (e : b = true) (h : A) : if b = true then A else B := by rw [if_pos e]; exact h
theorem rd_F {b : Bool} {A B : Prop} (e : b = false) (h : B) : if b = true then A else B := by rw [if_neg (by rw [e]; exact Bool.false_ne_true)]; exact h
theorem rd_nF {b : Bool} {A B : Prop} (e : b = true) (h : B) : if (!b) = true then A else B := rd_F (by rw [e]; rfl) h
theorem rd_nT {b : Bool} {A B : Prop} (e : b = false) (h : A) : if (!b) = true then A else B := rd_T (by rw [e]; rfl) h
theorem rd_D {c A B : Prop} [Decidable c] (h1 : c → A) (h2 : ¬ c → B) : if decide c = true then A else B := by
  by_cases h : c
  · exact rd_T (decide_eq_true h) (h1 h)
  · exact rd_F (decide_eq_false h) (h2 h)
theorem rd_nD {c A B : Prop} [Decidable c] (h1 : c → B) (h2 : ¬ c → A) : if (!decide c) = true then A else B := by
  by_cases h : c
  · exact rd_nF (decide_eq_true h) (h1 h)
  · exact rd_nT (decide_eq_false h) (h2 h)
end
/-! ### a def of the text, and its promise -/
structure Fn0 (K : PySem.W.Frag) (mg : Str → Option Value) (x : Str) (ps : List Str) (st : Stmt) : Prop where
  ex : ∃ f fd, mg x = some (.ref f) ∧ Fun K x x st f fd ∧ Binds K fd ps []
structure FnC (CX : CXT) (P : Program) (w : World) (K : PySem.W.Frag) (mg : Str → Option Value) (base : Heap) (x : Str) (ps : List Str) (k : Nat) (sp : Sp) : Prop where
  ex : ∃ f fd, mg x = some (.ref f) ∧ FnOk P w K mg base CX k f fd ps sp ∧ Binds K fd ps [] ∧ PySem.W.keepIn K (.ref f) = true
/-- never raises where it promises | may raise -/
abbrev Fn := FnC CX0
abbrev FnX (P : Program) (w : World) := FnC (L2.CX P w) P w
section
variable {P : Program} {w : World} {K : PySem.W.Frag} {mg : Str → Option Value} {base : Heap}
theorem Fn0.ok {x : Str} {ps : List Str} {st : Stmt} {N : List Str} {k : Nat} {sp : Sp} (F : Fn0 K mg x ps st) (S : FnScope N ps (defScope st)) (len : ∀ vs H Q E, sp vs H Q E → vs.length = ps.length)
    (hbody : ∀ (f : Addr) (cdv : Value) (A : Around) (outer : List Env) (s : Shared) (H : Hp) (vs : List V) (Q : VK) (E : XK), Room k (A.deeper (PyProof.Rows.envOfC x (defScope st) s.heap.objs.size f cdv)) → sp vs H Q E →
      ∃ t, PSs (cxOf CX0 P w K mg base N x (defScope st) f cdv A outer s H E).nox (defBody st) t ∧ t { nx := fun _ H' => Q .non H', rt := Q } (start N vs) H) : Fn P w K mg base x ps (k + 1) sp := by
  obtain ⟨f, fd, hm, F, b⟩ := F.ex
  exact ⟨f, fd, hm, F.ok S len (hbody f), b, F.kp⟩
theorem Fn0.okX {x : Str} {ps : List Str} {st : Stmt} {N : List Str} {k : Nat} {sp : Sp} (F : Fn0 K mg x ps st) (S : FnScope N ps (defScope st)) (len : ∀ vs H Q E, sp vs H Q E → vs.length = ps.length)
    (hbody : ∀ (f : Addr) (cdv : Value) (A : Around) (outer : List Env) (s : Shared) (H : Hp) (vs : List V) (Q : VK) (E : XK), Room k (A.deeper (PyProof.Rows.envOfC x (defScope st) s.heap.objs.size f cdv)) → sp vs H Q E →
      ∃ t, PSs (cxOf (L2.CX P w) P w K mg base N x (defScope st) f cdv A outer s H E) (defBody st) t ∧ t { nx := fun _ H' => Q .non H', rt := Q } (start N vs) H) : FnX P w K mg base x ps (k + 1) sp := by
  obtain ⟨f, fd, hm, F, b⟩ := F.ex
  exact ⟨f, fd, hm, F.okX S len (hbody f), b, F.kp⟩
end
def tFn (sp : Sp) (E : XK) (t : TA) : TE := fun σ H Q => t σ H fun vs H1 => sp vs H1 Q E
theorem rd_fn {sp : Sp} {E : XK} {t : TA} {σ : L2.St} {H : Hp} {Q : VK} (h : t σ H fun vs H1 => sp vs H1 Q E) : tFn sp E t σ H Q := h
section
variable {X : Cx} {CX : CXT} {x : Str} {ps : List Str} {j k : Nat} {sp : Sp} {e : Expr} {es : List Expr} {t : TA} {p pos : Pos} {E : XK}
theorem pe_fnE (F : FnC CX X.prog X.w X.K X.mg X.base x ps j sp) (hr : Room k X.A) (hx : Passes CX X E) (hg : Gl X x) (ha : PA X (e :: es) t) (hl : j ≤ k := by decide) (hdb : (x == ("__debug__" : Str)) = false := by decide)
    (he : starEach (e :: es) X.env = (false, eval e X.env) :: starEach es X.env := by rfl) (hpl : (backTo pos (starEach es X.env)).any (·.1) = false := by rfl) : PE X (.Call (.Name x p) (e :: es) [] pos) (tFn sp E t) := by
  obtain ⟨f, fd, hm, G, b, kp⟩ := F.ex
  refine pe_weak (pe_call G (hr.mono hl) hg hm kp b .nil hx ha hdb he hpl) fun σ H Q a => ?_
  have e : (fun (vs : List V) H1 => sp (vs ++ []) H1 Q E) = fun vs H1 => sp vs H1 Q E := by
    funext vs H1
    rw [List.append_nil]
  show t σ H (fun vs H1 => sp (vs ++ []) H1 Q E)
  rw [e]
  exact a
theorem pe_fn (F : Fn X.prog X.w X.K X.mg X.base x ps j sp) (hr : Room k X.A) (hg : Gl X x) (ha : PA X (e :: es) t) (hl : j ≤ k := by decide) (hdb : (x == ("__debug__" : Str)) = false := by decide)
    (he : starEach (e :: es) X.env = (false, eval e X.env) :: starEach es X.env := by rfl) (hpl : (backTo pos (starEach es X.env)).any (·.1) = false := by rfl) : PE X (.Call (.Name x p) (e :: es) [] pos) (tFn sp E0 t) :=
  pe_fnE F hr pass0 hg ha hl hdb he hpl
end

/-! ### sizes -/
def Bd (n : Int) : Prop := n.natAbs < 2 ^ 400000
theorem bd_s {n : Int} (h : n.natAbs < 18446744073709551616) : Bd n := Nat.lt_of_lt_of_le (show n.natAbs < 2 ^ 64 from h) (Nat.pow_le_pow_right (by decide) (by decide))
theorem bd_le {m n : Int} (h0 : 0 ≤ m) (h : m ≤ n) (hn : Bd n) : Bd m := Nat.lt_of_le_of_lt (by omega) hn
theorem bd_lt {n : Int} {k : Nat} (h : n.natAbs < 2 ^ k) (hk : k ≤ 400000 := by decide) : Bd n := Nat.lt_of_lt_of_le h (Nat.pow_le_pow_right (by decide) hk)
theorem mulw {i j : Int} (hi : Bd i) (hj : Bd j) : CMulW i j := wide_mul hi hj (by decide) (by decide) (by decide)
theorem divw {i j : Int} (h0 : 0 < j) (h : j.natAbs < 18446744073709551616) : CDivW i j := wide_div (b := 64) h0 h (by decide) (by decide)
def rPowL (a : Int) (n : Nat) : R2 := fun x y H Q => x = .int a ∧ y = .int (n : Int) ∧ Q (.int (a ^ n)) H
theorem op_powL {X : Cx} (a : Int) (n : Nat) (h1 : n ≤ 1000000 := by decide) (h2 : a.natAbs < 2 ^ 64 := by decide) : OpR X (binaryOp .Pow) (rPowL a n) := op_weak op_pow fun x y H Q ⟨e1, e2, q⟩ =>
  ⟨a, n, e1, e2, ⟨Int.natCast_nonneg _, by omega, h2⟩, by show Q (.int (a ^ ((n : Int).toNat))) _; rw [Int.toNat_natCast]; exact q⟩
theorem rd_powL {H : Hp} {Q : VK} {x y : V} {a : Int} {n : Nat} (e1 : x = .int a) (e2 : y = .int (n : Int)) (q : Q (.int (a ^ n)) H) : rPowL a n x y H Q := ⟨e1, e2, q⟩
def rShlL (k : Nat) (x y : V) (H : Hp) (Q : VK) : Prop := x = .int 1 ∧ y = .int (k : Int) ∧ Q (.int (2 ^ k)) H
theorem op_shlL {X : Cx} (k : Nat) (h1 : k ≤ 1000000 := by decide) : OpR X (binaryOp .LShift) (rShlL k) := op_weak op_shl fun x y H Q ⟨e1, e2, q⟩ =>
  ⟨1, k, e1, e2, ⟨Int.natCast_nonneg _, by omega, by decide⟩, by show Q (.int (1 * 2 ^ ((k : Int).toNat))) _; rw [Int.toNat_natCast, Int.one_mul]; exact q⟩
theorem rd_shlL {H : Hp} {Q : VK} {x y : V} {k : Nat} (e1 : x = .int 1) (e2 : y = .int (k : Int)) (q : Q (.int (2 ^ k)) H) : rShlL k x y H Q := ⟨e1, e2, q⟩
theorem atI_int {ns : List Int} {z : Int} (h0 : 0 ≤ z) (h1 : z < ns.length) : atI (ns.map V.int) z = some (.int (ns.getD z.toNat 0)) := by
  obtain ⟨k, rfl⟩ := Int.eq_ofNat_of_zero_le h0
  refine atI_nat ?_
  have h : k < ns.length := by omega
  simp [h]
theorem rd_ixTI {H : Hp} {Q : VK} {p : Addr} {xs : List V} (ns : List Int) {z : Int} [o : OB H p (.tup xs)] (e : xs = ns.map V.int) (h0 : 0 ≤ z) (h1 : z < ns.length) (q : Q (.int (ns.getD z.toNat 0)) H) : rIxTB (.ref p) (.int z) H Q := by
  subst e
  exact rd_ixT (atI_int h0 h1) q
theorem rd_ixRI {K : PySem.W.Frag} {H : Hp} {Q : VK} {p : Addr} {ns : List Int} {z : Int} [o : IR K H p ns] (h0 : 0 ≤ z) (h1 : z < ns.length) (q : Q (.int (ns.getD z.toNat 0)) H) : rIxRB K (.ref p) (.int z) H Q := rd_ixR (atI_int h0 h1) q
theorem rd_max2 {H : Hp} {Q : VK} {a b : Int} (q : Q (.int (max a b)) H) : rMax2B [.int a, .int b] H Q := ⟨a, b, rfl, q⟩
theorem rd_min2 {H : Hp} {Q : VK} {a b : Int} (q : Q (.int (min a b)) H) : rMin2B [.int a, .int b] H Q := ⟨a, b, rfl, q⟩
theorem rd_abs {H : Hp} {Q : VK} {a : Int} (q : Q (.int (a.natAbs : Int)) H) : rAbsB [.int a] H Q := ⟨a, rfl, q⟩
theorem at_head {u : Int} {r : List Int} : atI ((u :: r).map V.int) 0 = some (.int u) := at_of (j := 0) rfl rfl
/-! ### data and == -/
theorem dpInts {K : PySem.W.Frag} {H : Hp} : ∀ ns : List Int, DpAll K H (ns.map V.int) (ns.map PyData.int)
  | [] => .nil
  | n :: r => .cons (.int n) (dpInts r)
theorem lay_ints : ∀ ns : List Int, PyData.canLayAll0 (ns.map PyData.int) = true
  | [] => by simp [PyData.canLayAll0]
  | n :: r => by simp [PyData.canLayAll0, PyData.canLay0, lay_ints r]
theorem dep_ints : ∀ ns : List Int, PyData.depthAll (ns.map PyData.int) = 0
  | [] => by simp [PyData.depthAll]
  | n :: r => by simp [PyData.depthAll, PyData.depth, dep_ints r]
theorem sh_ints (ns : List Int) : SeqAt.shaped (.list (ns.map PyData.int)) = true := by
  simp [SeqAt.shaped, PyData.canLay0, PyData.depth, lay_ints, dep_ints]
theorem eqv_ints : ∀ ns ms : List Int, PyData.eqvAll (ns.map PyData.int) (ms.map PyData.int) = decide (ns = ms)
  | [], [] => by simp [PyData.eqvAll]
  | [], _ :: _ => by simp [PyData.eqvAll]
  | _ :: _, [] => by simp [PyData.eqvAll]
  | n :: r, m :: q => by
    have ih := eqv_ints r q
    simp only [List.map_cons, PyData.eqvAll, PyData.eqv, ih]
    rw [Bool.eq_iff_iff]
    simp
theorem eqv_lst (ns ms : List Int) : PyData.eqv (.list (ns.map PyData.int)) (.list (ms.map PyData.int)) = decide (ns = ms) := by
  show PyData.eqvAll _ _ = _
  exact eqv_ints ns ms
/-- lists of ints, written or not -/
class ILs (xs : List V) (ns : outParam (List Int)) : Prop where e : xs = ns.map V.int
instance ilNil : ILs [] [] := ⟨rfl⟩
instance ilCons {n : Int} {xs : List V} {ns : List Int} [o : ILs xs ns] : ILs (.int n :: xs) (n :: ns) := ⟨by rw [o.e]; rfl⟩
instance ilMap {ns : List Int} : ILs (ns.map V.int) ns := ⟨rfl⟩
instance ilApp {xs ys : List V} {ns ms : List Int} [a : ILs xs ns] [b : ILs ys ms] : ILs (xs ++ ys) (ns ++ ms) := ⟨by rw [a.e, b.e, List.map_append]⟩
instance ilRev {xs : List V} {ns : List Int} [a : ILs xs ns] : ILs xs.reverse ns.reverse := ⟨by rw [a.e, List.map_reverse]⟩
class BLs (xs : List V) (bs : outParam (List Bool)) : Prop where e : xs = bs.map V.bl
instance blNil : BLs [] [] := ⟨rfl⟩
instance blCons {b : Bool} {xs : List V} {bs : List Bool} [o : BLs xs bs] : BLs (.bl b :: xs) (b :: bs) := ⟨by rw [o.e]; rfl⟩
instance blMap {bs : List Bool} : BLs (bs.map V.bl) bs := ⟨rfl⟩
instance blMapF {α : Type} {l : List α} {f : α → Bool} : BLs (l.map fun x => V.bl (f x)) (l.map f) := ⟨by rw [List.map_map]; rfl⟩
instance blApp {xs ys : List V} {bs cs : List Bool} [o : BLs xs bs] [o2 : BLs ys cs] : BLs (xs ++ ys) (bs ++ cs) := ⟨by rw [o.e, o2.e, List.map_append]⟩
instance ilMapF {α : Type} {l : List α} {f : α → Int} : ILs (l.map fun x => V.int (f x)) (l.map f) := ⟨by rw [List.map_map]; rfl⟩
instance dpInt {K H i} : DP K H (.int i) (.int i) := ⟨.int i, rfl⟩
instance dpBl {K H i} : DP K H (.bl i) (.bool i) := ⟨.bl i, rfl⟩
instance dpNon {K H} : DP K H .non .none := ⟨.non, rfl⟩
instance dpIL {K H p} {xs : List V} {ns : List Int} [o : OB H p (.lst xs)] [e : ILs xs ns] : DP K H (.ref p) (.list (ns.map PyData.int)) := ⟨.lst o.sq (by rw [e.e]; exact dpInts ns), sh_ints ns⟩
instance dpT2 {K H p} {a b : Int} [o : OB H p (.tup [.int a, .int b])] : DP K H (.ref p) (.tuple [.int a, .int b]) := ⟨.tup o.st (.cons (.int a) (.cons (.int b) .nil)), rfl⟩
theorem rd_eqT {K : PySem.W.Frag} {H : Hp} {Q : VK} {x y : V} {a b c d : Int} [o : DP K H x (.tuple [.int a, .int b])] [o' : DP K H y (.tuple [.int c, .int d])] (q : Q (.bl (decide (a = c ∧ b = d))) H) : rEqB K x y H Q := ⟨_, _, o, o', by
  have e : PyData.eqv (.tuple [.int a, .int b]) (.tuple [.int c, .int d]) = decide (a = c ∧ b = d) := by
    simp only [PyData.eqv, PyData.eqvAll, Bool.and_true]
    rw [Bool.eq_iff_iff]
    simp
  rw [e]; exact q⟩
theorem rd_neT {K : PySem.W.Frag} {H : Hp} {Q : VK} {x y : V} {a b c d : Int} [o : DP K H x (.tuple [.int a, .int b])] [o' : DP K H y (.tuple [.int c, .int d])] (q : Q (.bl (!decide (a = c ∧ b = d))) H) : rNeB K x y H Q := ⟨_, _, o, o', by
  have e : PyData.eqv (.tuple [.int a, .int b]) (.tuple [.int c, .int d]) = decide (a = c ∧ b = d) := by
    simp only [PyData.eqv, PyData.eqvAll, Bool.and_true]
    rw [Bool.eq_iff_iff]
    simp
  rw [e]; exact q⟩
theorem rd_eqL {K : PySem.W.Frag} {H : Hp} {Q : VK} {x y : V} {ns ms : List Int} [a : DP K H x (.list (ns.map PyData.int))] [b : DP K H y (.list (ms.map PyData.int))] (q : Q (.bl (decide (ns = ms))) H) : rEqB K x y H Q := ⟨_, _, a, b, by rw [eqv_lst]; exact q⟩
theorem rd_neL {K : PySem.W.Frag} {H : Hp} {Q : VK} {x y : V} {ns ms : List Int} [a : DP K H x (.list (ns.map PyData.int))] [b : DP K H y (.list (ms.map PyData.int))] (q : Q (.bl (!decide (ns = ms))) H) : rNeB K x y H Q := ⟨_, _, a, b, by rw [eqv_lst]; exact q⟩
theorem rd_ixLI {H : Hp} {Q : VK} {p : Addr} {xs : List V} {ns : List Int} {z : Int} [o : OB H p (.lst xs)] [e : ILs xs ns] (h0 : 0 ≤ z) (h1 : z < ns.length) (q : Q (.int (ns.getD z.toNat 0)) H) : rIxLB (.ref p) (.int z) H Q := rd_ixL (by rw [e.e]; exact atI_int h0 h1) q
theorem rd_appendI {H : Hp} {Q : VK} {p : Addr} {xs : List V} {v : V} {ns : List Int} [o : OB H p (.lst xs)] [e : ILs xs ns] (l : ns.length < 100000) (h : kMut Q .non p (.lst (xs ++ [v])) H) : rAppendB (.ref p) [v] H Q := rd_append (by rw [e.e, List.length_map]; exact l) h
theorem rd_lenI {H : Hp} {Q : VK} {p : Addr} {xs : List V} {ns : List Int} [o : OB H p (.lst xs)] [e : ILs xs ns] (q : Q (.int (ns.length : Int)) H) : rLenB [.ref p] H Q := ⟨p, xs, rfl, o, by rw [e.e, List.length_map]; exact q⟩
theorem rd_allB {H : Hp} {Q : VK} {p : Addr} {xs : List V} {bs : List Bool} [o : OB H p (.lst xs)] [e : BLs xs bs] (q : Q (.bl (bs.all id)) H) : rAllB [.ref p] H Q := ⟨p, bs, rfl, by rw [← e.e]; exact o, q⟩
theorem rd_anyB {H : Hp} {Q : VK} {p : Addr} {xs : List V} {bs : List Bool} [o : OB H p (.lst xs)] [e : BLs xs bs] (q : Q (.bl (bs.any id)) H) : rAnyB [.ref p] H Q := ⟨p, bs, rfl, by rw [← e.e]; exact o, q⟩
theorem rd_sumB {H : Hp} {Q : VK} {p : Addr} {xs : List V} {ns : List Int} [o : OB H p (.lst xs)] [e : ILs xs ns] (q : Q (.int ns.sum) H) : rSumB [.ref p] H Q := ⟨p, ns, rfl, by rw [← e.e]; exact o, q⟩
theorem ob_ints {H : Hp} {p : Addr} {xs : List V} {ns : List Int} (a : ILs xs ns) (o : OB H p (.lst xs)) : OB H p (.lst (ns.map V.int)) := by rw [← a.e]; exact o

/-! ### what is walked -/
structure It1 (J : It) (n : Nat) (ok : Hp → Prop) (it : Nat → V → Hp → Hp → Prop) : Prop where
  go : ∀ i H, i < n → ok H → J.go i H
  stop : ∀ H, ok H → J.stop n H
  yld : ∀ i v H H', i < n → ok H → J.yld i H v H' → it i v H H'
def itS (xs : List V) : Nat → V → Hp → Hp → Prop := fun i v H H' => H' = H ∧ xs[i]? = some v
def itR (lo c : Int) : Nat → V → Hp → Hp → Prop := fun i v H H' => H' = H ∧ v = .int (lo + (i : Nat) * c)
def itE (xs : List V) : Nat → V → Hp → Hp → Prop := fun i v H H' => ∃ T x, v = .ref T ∧ xs[i]? = some x ∧ SM H' H ∧ FR0 H T ∧ OB H' T (.tup [.int (i : Nat), x])
def itZ (xs ys : List V) : Nat → V → Hp → Hp → Prop := fun i v H H' => ∃ T x y, v = .ref T ∧ xs[i]? = some x ∧ ys[i]? = some y ∧ SM H' H ∧ FR0 H T ∧ OB H' T (.tup [x, y])
theorem it_list {K : PySem.W.Frag} {a : Addr} {xs : List V} : It1 (Itl K a) xs.length (fun H => OB H a (.lst xs)) (itS xs) :=
  ⟨fun i H h o => ⟨xs, xs[i], o.sq, by simp [h]⟩, fun H o => ⟨xs, o.sq, Nat.le_refl _⟩, fun i v H H' h o ⟨e, f⟩ => ⟨e, f xs o.sq⟩⟩
theorem it_rlist {K : PySem.W.Frag} {a : Addr} {ns : List Int} : It1 (Itl K a) ns.length (fun H => IR K H a ns) (itS (ns.map V.int)) :=
  ⟨fun i H h o => ⟨_, _, o.h, List.getElem?_eq_getElem (by simp [h])⟩, fun H o => ⟨_, o.h, by simp⟩, fun i v H H' h o ⟨e, f⟩ => ⟨e, f _ o.h⟩⟩
theorem it_tup {K : PySem.W.Frag} {a : Addr} {xs : List V} : It1 (Itt K a) xs.length (fun H => OB H a (.tup xs)) (itS xs) :=
  ⟨fun i H h o => ⟨xs, xs[i], o.st, by simp [h]⟩, fun H o => ⟨xs, o.st, Nat.le_refl _⟩, fun i v H H' h o ⟨e, f⟩ => ⟨e, f xs o.st⟩⟩
theorem it_range {lo : Int} {n : Nat} : It1 (Itr lo n) n (fun _ => True) (itR lo 1) :=
  ⟨fun i H h o => h, fun H o => Nat.le_refl _, fun i v H H' h o ⟨e, f⟩ => ⟨e, by rw [f, Int.mul_one]⟩⟩
theorem it_rangeC {lo c : Int} {n : Nat} : It1 (Itc lo c n) n (fun _ => True) (itR lo c) :=
  ⟨fun i H h o => h, fun H o => Nat.le_refl _, fun i v H H' h o ⟨e, f⟩ => ⟨e, f⟩⟩
theorem it_enum {K : PySem.W.Frag} {a : Addr} {xs : List V} : It1 (Ite K a) xs.length (fun H => OB H a (.lst xs)) (itE xs) :=
  ⟨fun i H h o => ⟨xs, xs[i], o.sq, by simp [h]⟩, fun H o => ⟨xs, o.sq, Nat.le_refl _⟩, fun i v H H' h o ⟨T, x, e, n, e', f⟩ => ⟨T, x, e, f xs o.sq, by subst e'; exact SM.new n, ⟨n⟩, by subst e'; exact OB.new⟩⟩
theorem it_zip {K : PySem.W.Frag} {a b : Addr} {xs ys : List V} : It1 (Itz K a b) (min xs.length ys.length) (fun H => OB H a (.lst xs) ∧ OB H b (.lst ys)) (itZ xs ys) :=
  ⟨fun i H h o => ⟨xs, ys, xs[i], ys[i], o.1.sq, o.2.sq, by simp, by simp⟩, fun H o => ⟨xs, ys, o.1.sq, o.2.sq, by omega⟩, fun i v H H' h o ⟨T, x, y, e, n, e', f, f'⟩ => ⟨T, x, y, e, f xs o.1.sq, f' ys o.2.sq, by subst e'; exact SM.new n, ⟨n⟩, by subst e'; exact OB.new⟩⟩
def kFor (g : TG) (tb : TS) (D : Ends) (σ : L2.St) : It → Hp → Prop := fun J H1 => ∃ W : Nat → Nat → L2.St → Hp → Prop, (∃ m, W 0 m σ H1) ∧ ∀ i m σ H, W i m σ H →
  (J.stop i H ∧ D.nx σ H) ∨ (J.go i H ∧ ∃ N : L2.St → Hp → Prop, (∀ σ' H', N σ' H' → ∃ m', m' < m ∧ W (i + 1) m' σ' H') ∧ ∀ x H', J.yld i H x H' → g x σ H' fun σ2 H2 => tb { D with nx := N, ct := N, bk := D.nx } σ2 H2)
def kLc (g : TG) (tt : TT) (te : TE) (vs : List Nat) (σ : L2.St) (Q : VK) : It → Hp → Prop := fun J H1 => ∀ D, H1 D = none → ∃ W : Nat → Nat → Hp → Prop, (∃ m, W 0 m (upd H1 D (.lst []))) ∧ ∀ i m H, W i m H →
  (J.stop i H ∧ Q (.ref D) H) ∨ (J.go i H ∧ ∃ Nx : Hp → Prop, (∀ H', Nx H' → ∃ m', m' < m ∧ W (i + 1) m' H') ∧ ∀ x H', J.yld i H x H' → g x (wipe σ vs) H' fun σ2 H2 => wipe σ2 vs = wipe σ vs ∧ tt σ2 H2 fun b H3 =>
    if b = true then te σ2 H3 fun y H4 => ∃ acc, H4 D = some (.lst acc) ∧ acc.length < sizeLine ∧ Nx (upd H4 D (.lst (acc ++ [y]))) else Nx H3)
def kItT (K : PySem.W.Frag) (R : It → Hp → Prop) : VK := fun x H1 => ∃ a, x = .ref a ∧ (∃ xs, SqT K H1 a xs) ∧ R (Itt K a) H1
def kItL (K : PySem.W.Frag) (R : It → Hp → Prop) : VK := fun x H1 => ∃ a, x = .ref a ∧ (∃ xs, SqL K H1 a xs) ∧ R (Itl K a) H1
def kR1 (R : It → Hp → Prop) : List V → Hp → Prop := fun vs H1 => ∃ j : Int, vs = [.int j] ∧ -(2 ^ 62) ≤ j ∧ j < 2 ^ 62 ∧ R (Itr 0 j.toNat) H1
def kR2 (R : It → Hp → Prop) : List V → Hp → Prop := fun vs H1 => ∃ i j : Int, vs = [.int i, .int j] ∧ (-(2 ^ 62) ≤ i ∧ i < 2 ^ 62 ∧ -(2 ^ 62) ≤ j ∧ j < 2 ^ 62) ∧ R (Itr i (j - i).toNat) H1
def kR3 (R : It → Hp → Prop) : List V → Hp → Prop := fun vs H1 => ∃ (i j c : Int) (n : Nat), vs = [.int i, .int j, .int c] ∧ RgC i j c n ∧ R (Itc i c n) H1
def kEn (K : PySem.W.Frag) (R : It → Hp → Prop) : List V → Hp → Prop := fun vs H1 => ∃ a xs, vs = [.ref a] ∧ SqL K H1 a xs ∧ R (Ite K a) H1
def kZi (K : PySem.W.Frag) (R : It → Hp → Prop) : List V → Hp → Prop := fun vs H1 => ∃ a b xs ys, vs = [.ref a, .ref b] ∧ SqL K H1 a xs ∧ SqL K H1 b ys ∧ R (Itz K a b) H1
section
variable {K : PySem.W.Frag} {σ : L2.St} {H : Hp} {Q : VK} {D : Ends} {g : TG} {tb : TS} {wi : TI} {tt : TT} {te tl : TE} {ta : TA} {vs : List Nat} {R : It → Hp → Prop} {p q : Addr} {xs ys : List V} {J : It} {n : Nat} {ok : Hp → Prop} {it : Nat → V → Hp → Hp → Prop}
theorem rd_for (h : wi σ H (kFor g tb D σ)) : tFor wi g tb D σ H := h
theorem rd_lc (h : wi σ H (kLc g tt te vs σ Q)) : tLc wi g tt te vs σ H Q := h
theorem rd_iT (h : tl σ H (kItT K R)) : iTup K tl σ H R := h
theorem rd_iL (h : tl σ H (kItL K R)) : iList K tl σ H R := h
theorem rd_kItT [o : OB H p (.tup xs)] (h : R (Itt K p) H) : kItT K R (.ref p) H := ⟨p, rfl, ⟨xs, o.st⟩, h⟩
theorem rd_kItL [o : OB H p (.lst xs)] (h : R (Itl K p) H) : kItL K R (.ref p) H := ⟨p, rfl, ⟨xs, o.sq⟩, h⟩
theorem rd_kItR {ns : List Int} [o : IR K H p ns] (h : R (Itl K p) H) : kItL K R (.ref p) H := ⟨p, rfl, ⟨_, o.h⟩, h⟩
theorem rd_i1 (h : ta σ H (kR1 R)) : iRng1 ta σ H R := h
theorem rd_i2 (h : ta σ H (kR2 R)) : iRng2 ta σ H R := h
theorem rd_i3 (h : ta σ H (kR3 R)) : iRng3 ta σ H R := h
theorem rd_iE (h : ta σ H (kEn K R)) : iEnum K ta σ H R := h
theorem rd_iZ (h : ta σ H (kZi K R)) : iZip K ta σ H R := h
theorem rd_kR1 {j : Int} (h0 : -(2 ^ 62) ≤ j ∧ j < 2 ^ 62) (h : R (Itr 0 j.toNat) H) : kR1 R [.int j] H := ⟨j, rfl, h0.1, h0.2, h⟩
theorem rd_kR2 {i j : Int} (h0 : -(2 ^ 62) ≤ i ∧ i < 2 ^ 62 ∧ -(2 ^ 62) ≤ j ∧ j < 2 ^ 62) (h : R (Itr i (j - i).toNat) H) : kR2 R [.int i, .int j] H := ⟨i, j, rfl, h0, h⟩
theorem rd_kR3 {i j c : Int} {n : Nat} (h0 : RgC i j c n) (h : R (Itc i c n) H) : kR3 R [.int i, .int j, .int c] H := ⟨i, j, c, n, rfl, h0, h⟩
theorem rd_kEn [o : OB H p (.lst xs)] (h : R (Ite K p) H) : kEn K R [.ref p] H := ⟨p, xs, rfl, o.sq, h⟩
theorem rd_kZi [o : OB H p (.lst xs)] [o' : OB H q (.lst ys)] (h : R (Itz K p q) H) : kZi K R [.ref p, .ref q] H := ⟨p, q, xs, ys, rfl, o.sq, o'.sq, h⟩
theorem rd_yes {R : Bool → Hp → Prop} (h : R true H) : tYes σ H R := h
theorem rd_wipe {A : Prop} {σ' : L2.St} (e : wipe σ' vs = wipe σ vs) (h : A) : wipe σ' vs = wipe σ vs ∧ A := ⟨e, h⟩
/-- a for, by its invariant -/
theorem forG (Y : It1 J n ok it) (Pv : Nat → L2.St → Hp → Prop) (h0 : Pv 0 σ H) (hok : ∀ i σ H, Pv i σ H → ok H)
    (hs : ∀ i v σ H H', i < n → Pv i σ H → it i v H H' → g v σ H' fun σ2 H2 => tb { D with nx := Pv (i + 1), ct := Pv (i + 1), bk := D.nx } σ2 H2) (hd : ∀ σ H, Pv n σ H → D.nx σ H) : kFor g tb D σ J H := by
  refine ⟨fun i m σ H => m = n - i ∧ i ≤ n ∧ Pv i σ H, ⟨n, by simp, Nat.zero_le _, h0⟩, ?_⟩
  rintro i m σ H ⟨rfl, hi, p⟩
  by_cases hlt : i < n
  · exact .inr ⟨Y.go i H hlt (hok _ _ _ p), Pv (i + 1), fun σ' H' p' => ⟨n - (i + 1), by omega, rfl, hlt, p'⟩, fun v H' y => hs i v σ H H' hlt p (Y.yld i v H H' hlt (hok _ _ _ p) y)⟩
  · have e : i = n := by omega
    subst e
    exact .inl ⟨Y.stop H (hok _ _ _ p), hd σ H p⟩
theorem forM {a : L2.St → Hp → Prop} {b : VK} {c d : L2.St → Hp → Prop} (Y : It1 J n ok it) (Pv : Nat → L2.St → Hp → Prop) (h0 : Pv 0 σ H) (hok : ∀ i σ H, Pv i σ H → ok H)
    (hs : ∀ i v σ H H', i < n → Pv i σ H → it i v H H' → g v σ H' fun σ2 H2 => tb (Ends.mk (Pv (i + 1)) b a (Pv (i + 1))) σ2 H2) (hd : ∀ σ H, Pv n σ H → a σ H) : kFor g tb (Ends.mk a b c d) σ J H := forG Y Pv h0 hok hs hd
theorem whM {a : L2.St → Hp → Prop} {b : VK} {c d : L2.St → Hp → Prop} {tc : TT} (W : Nat → L2.St → Hp → Prop) (h0 : ∃ m, W m σ H)
    (hs : ∀ m σ H, W m σ H → tc σ H fun z H1 => if z = true then ∃ N : L2.St → Hp → Prop, (∀ σ' H', N σ' H' → ∃ m', m' < m ∧ W m' σ' H') ∧ tb (Ends.mk N b a N) σ H1 else a σ H1) : tWhile tc tb (Ends.mk a b c d) σ H := ⟨W, h0, hs⟩
/-- a comprehension whose element and test leave all as it was -/
theorem lcG (Y : It1 J n ok it) (acc : Nat → List V) (a0 : acc 0 = []) (hl : ∀ i, i < n → (acc i).length < 100000) (hok : ∀ H', SM H' H → ok H')
    (hs : ∀ i v H' H'', i < n → SM H' H → it i v H' H'' → ∀ (Nt : VK) (Nf : Hp → Prop), (∀ y H4, SM H4 H' → acc (i + 1) = acc i ++ [y] → Nt y H4) → (∀ H3, SM H3 H' → acc (i + 1) = acc i → Nf H3) →
      g v (wipe σ vs) H'' fun σ2 H2 => wipe σ2 vs = wipe σ vs ∧ tt σ2 H2 fun b H3 => if b = true then te σ2 H3 Nt else Nf H3)
    (hk : kNew Q (.lst (acc n)) H) : kLc g tt te vs σ Q J H := by
  intro D hD
  refine ⟨fun i m H' => m = n - i ∧ i ≤ n ∧ SM H' H ∧ H' D = some (.lst (acc i)), ⟨n, by simp, Nat.zero_le _, SM.new hD, by rw [a0]; exact upd_same⟩, ?_⟩
  rintro i m H' ⟨rfl, hi, s, d⟩
  by_cases hlt : i < n
  · refine .inr ⟨Y.go i H' hlt (hok _ s), fun H4 => SM H4 H ∧ H4 D = some (.lst (acc (i + 1))), fun H4 p' => ⟨n - (i + 1), by omega, rfl, hlt, p'⟩, fun v H'' y => ?_⟩
    refine hs i v H' H'' hlt s (Y.yld i v H' H'' hlt (hok _ s) y) _ _ (fun y H4 s4 e => ?_) (fun H3 s3 e => ?_)
    · refine ⟨acc i, s4.s _ _ d, slt_of (hl i hlt), ⟨fun b o h => ?_⟩, by rw [e]; exact upd_same⟩
      rw [upd_ne (ne_of_none h hD)]
      exact s4.s _ _ (s.s _ _ h)
    · exact ⟨⟨fun b o h => s3.s _ _ (s.s _ _ h)⟩, by rw [e]; exact s3.s _ _ d⟩
  · have e : i = n := by omega
    subst e
    exact .inl ⟨Y.stop H' (hok _ s), hk D H' s ⟨hD⟩ ⟨d⟩⟩
/-- every item to its value -/
theorem lcMap {α : Type} (l : List α) (f : α → V) (Y : It1 J n ok it) (hn : n = l.length) (hl : l.length ≤ 100000) (hok : ∀ H', SM H' H → ok H')
    (hs : ∀ i x v H' H'', l[i]? = some x → SM H' H → it i v H' H'' → ∀ (Nt : VK) (Nf : Hp → Prop), (∀ H4, SM H4 H' → Nt (f x) H4) →
      g v (wipe σ vs) H'' fun σ2 H2 => wipe σ2 vs = wipe σ vs ∧ tt σ2 H2 fun b H3 => if b = true then te σ2 H3 Nt else Nf H3)
    (hk : kNew Q (.lst (l.map f)) H) : kLc g tt te vs σ Q J H := by
  subst hn
  refine lcG Y (fun i => (l.take i).map f) rfl (fun i hi => ?_) hok (fun i v H' H'' hi s y Nt Nf ht hf => ?_) ?_
  · rw [List.length_map, List.length_take]; omega
  · refine hs i l[i] v H' H'' (List.getElem?_eq_getElem hi) s y Nt Nf fun H4 s4 => ht _ _ s4 ?_
    show (l.take (i + 1)).map f = (l.take i).map f ++ [f l[i]]
    rw [List.take_succ_eq_append_getElem hi, List.map_append]
    rfl
  · rw [List.take_length]
    exact hk
end

/-! ### more of lists -/
theorem divb {i j : Int} (h0 : 0 < j) (h : j.natAbs < 2 ^ 8000) : CDivW i j := wide_div (b := 8000) h0 h (by decide) (by decide)
theorem bd_mul {i j : Int} {a b : Nat} (hi : i.natAbs < 2 ^ a) (hj : j.natAbs < 2 ^ b) (h : a + b ≤ 400000 := by decide) : Bd (i * j) := bd_lt (wide_lt hi hj) h
theorem op_repB {X : Cx} : OpR X (binaryOp .Mult) rRepB := op_weak op_rep fun x y H Q ⟨l, k, xs, a, b, o, h1, h2, n, q⟩ => ⟨l, k, xs, a, b, o.h, h1, h2, small_of n, q.of⟩
theorem rd_rep {H : Hp} {Q : VK} {p : Addr} {xs : List V} {k : Int} [o : OB H p (.lst xs)] (h : -(2 ^ 63) ≤ k ∧ k < 2 ^ 63) (l : xs.length * k.toNat ≤ 100000) (q : kNew Q (.lst (List.replicate k.toNat xs).flatten) H) : rRepB (.ref p) (.int k) H Q := ⟨p, k, xs, rfl, rfl, o, h.1, h.2, l, q⟩
theorem rep_one {k : Nat} {n : Int} : (List.replicate k [V.int n]).flatten = (List.replicate k n).map V.int := by
  induction k with
  | zero => rfl
  | succ k ih => rw [List.replicate_succ, List.replicate_succ, List.flatten_cons, ih]; rfl
def rListB : List V → Hp → VK → Prop := fun vs H Q => ∃ p xs, vs = [.ref p] ∧ OB H p (.lst xs) ∧ kNew Q (.lst xs) H
theorem cr_listB {X : Cx} : CallR X (.type "list") rListB := cr_weak call_list_of fun vs H Q ⟨p, xs, e, o, q⟩ => ⟨p, xs, e, .inl o.sq, q.of⟩
theorem rd_list {H : Hp} {Q : VK} {p : Addr} {xs : List V} [o : OB H p (.lst xs)] (q : kNew Q (.lst xs) H) : rListB [.ref p] H Q := ⟨p, xs, rfl, o, q⟩
theorem rd_sl {σ : L2.St} {H : Hp} {Q : VK} {r : V → Option Int → Option Int → Hp → VK → Prop} {te : TE} {tl th : TO} (h : te σ H fun x H1 => tl σ H1 fun l H2 => th σ H2 fun u H3 => r x l u H3 Q) : tSl r te tl th σ H Q := h
theorem rd_nopart {σ : L2.St} {H : Hp} {R : Option Int → Hp → Prop} (h : R none H) : tNoPart σ H R := h
def kPart (R : Option Int → Hp → Prop) : VK := fun x H => ∃ i, x = .int i ∧ R (some i) H
theorem rd_part {σ : L2.St} {H : Hp} {R : Option Int → Hp → Prop} {t : TE} (h : t σ H (kPart R)) : tPart t σ H R := h
theorem rd_kPart {H : Hp} {R : Option Int → Hp → Prop} {i : Int} (h : R (some i) H) : kPart R (.int i) H := ⟨i, rfl, h⟩
theorem rd_slL {H : Hp} {Q : VK} {p : Addr} {xs : List V} {lo hi : Option Int} [o : OB H p (.lst xs)] (q : kNew Q (.lst (cutV xs lo hi)) H) : rSlB (.ref p) lo hi H Q := ⟨p, xs, rfl, o, q⟩
/-- a slice of ints -/
def cutI (ns : List Int) (lo hi : Option Int) : List Int := (ns.drop (HT.sIx ns.length 0 lo)).take (HT.sIx ns.length ns.length hi - HT.sIx ns.length 0 lo)
theorem cut_map (ns : List Int) (lo hi : Option Int) : cutV (ns.map V.int) lo hi = (cutI ns lo hi).map V.int := by
  unfold cutV cutI
  rw [List.length_map, List.map_take, List.map_drop]
theorem cut_mem {ns : List Int} {lo hi : Option Int} {x : Int} (h : x ∈ cutI ns lo hi) : x ∈ ns := List.mem_of_mem_drop (List.mem_of_mem_take h)
theorem cut_len (ns : List Int) (lo hi : Option Int) : (cutI ns lo hi).length ≤ ns.length := by
  unfold cutI
  rw [List.length_take, List.length_drop]
  omega
theorem cut_to (ns : List Int) (k : Nat) : cutI ns none (some (k : Int)) = ns.take k := by
  unfold cutI
  rw [HT.sIx_none, HT.sIx_nat, List.drop_zero, Nat.sub_zero, ← List.take_take, List.take_length]
  try rfl
theorem cut_from (ns : List Int) (k : Nat) : cutI ns (some (k : Int)) none = ns.drop k := by
  unfold cutI
  rw [HT.sIx_none, HT.sIx_nat]
  by_cases h : k ≤ ns.length
  · rw [Nat.min_eq_left h, List.take_of_length_le (by rw [List.length_drop]; omega)]
  · rw [Nat.min_eq_right (by omega), List.drop_of_length_le (Nat.le_refl _), List.drop_of_length_le (by omega), List.take_nil]
instance ilCut {xs : List V} {ns : List Int} {lo hi : Option Int} [a : ILs xs ns] : ILs (cutV xs lo hi) (cutI ns lo hi) := ⟨by rw [a.e, cut_map]⟩
section
variable {K : PySem.W.Frag} {σ : L2.St} {H : Hp} {Q : VK} {g : TG} {tt : TT} {te : TE} {vs : List Nat} {J : It} {n : Nat} {ok : Hp → Prop} {it : Nat → V → Hp → Hp → Prop}
/-- elements of which just something is known -/
theorem lcInts (p : Int → Prop) (Y : It1 J n ok it) (hl : n ≤ 100000) (hok : ∀ H', SM H' H → ok H')
    (hs : ∀ i v H' H'', i < n → SM H' H → it i v H' H'' → ∀ (Nt : VK) (Nf : Hp → Prop), (∀ z H4, p z → SM H4 H' → Nt (.int z) H4) →
      g v (wipe σ vs) H'' fun σ2 H2 => wipe σ2 vs = wipe σ vs ∧ tt σ2 H2 fun b H3 => if b = true then te σ2 H3 Nt else Nf H3)
    (hk : ∀ ns : List Int, ns.length = n → (∀ z ∈ ns, p z) → kNew Q (.lst (ns.map V.int)) H) : kLc g tt te vs σ Q J H := by
  intro D hD
  refine ⟨fun i m H' => m = n - i ∧ i ≤ n ∧ SM H' H ∧ ∃ ns : List Int, ns.length = i ∧ (∀ z ∈ ns, p z) ∧ H' D = some (.lst (ns.map V.int)), ⟨n, by simp, Nat.zero_le _, SM.new hD, [], rfl, by simp, upd_same⟩, ?_⟩
  rintro i m H' ⟨rfl, hi, s, ns, e, hp, d⟩
  by_cases hlt : i < n
  · refine .inr ⟨Y.go i H' hlt (hok _ s), fun H4 => SM H4 H ∧ ∃ ns : List Int, ns.length = i + 1 ∧ (∀ z ∈ ns, p z) ∧ H4 D = some (.lst (ns.map V.int)), fun H4 p' => ⟨n - (i + 1), by omega, rfl, hlt, p'⟩, fun v H'' y => ?_⟩
    refine hs i v H' H'' hlt s (Y.yld i v H' H'' hlt (hok _ s) y) _ _ (fun z H4 pz s4 => ?_)
    refine ⟨ns.map V.int, s4.s _ _ d, slt_of (by rw [List.length_map]; omega), ⟨fun b o h => ?_⟩, ns ++ [z], by simp [e], ?_, by rw [List.map_append]; exact upd_same⟩
    · rw [upd_ne (ne_of_none h hD)]
      exact s4.s _ _ (s.s _ _ h)
    · intro y hy
      rcases List.mem_append.mp hy with h | h
      · exact hp y h
      · rw [List.mem_singleton.mp h]; exact pz
  · have e' : i = n := by omega
    exact .inl ⟨e' ▸ Y.stop H' (hok _ s), hk ns (e.trans e') hp D H' s ⟨hD⟩ ⟨d⟩⟩
/-- those items that a test keeps -/
theorem lcKeep {α : Type} (l : List α) (f : α → V) (kp : α → Bool) (Y : It1 J n ok it) (hn : n = l.length) (hl : l.length ≤ 100000) (hok : ∀ H', SM H' H → ok H')
    (hs : ∀ i x v H' H'', l[i]? = some x → SM H' H → it i v H' H'' → ∀ (Nt : VK) (Nf : Hp → Prop), (∀ H4, SM H4 H' → kp x = true → Nt (f x) H4) → (∀ H4, SM H4 H' → kp x = false → Nf H4) →
      g v (wipe σ vs) H'' fun σ2 H2 => wipe σ2 vs = wipe σ vs ∧ tt σ2 H2 fun b H3 => if b = true then te σ2 H3 Nt else Nf H3)
    (hk : kNew Q (.lst ((l.filter kp).map f)) H) : kLc g tt te vs σ Q J H := by
  subst hn
  refine lcG Y (fun i => ((l.take i).filter kp).map f) (by simp) (fun i hi => ?_) hok (fun i v H' H'' hi s y Nt Nf ht hf => ?_) ?_
  · rw [List.length_map]
    have := List.length_filter_le kp (l.take i)
    rw [List.length_take] at this
    omega
  · refine hs i l[i] v H' H'' (List.getElem?_eq_getElem hi) s y Nt Nf (fun H4 s4 e => ht _ _ s4 ?_) (fun H4 s4 e => hf _ s4 ?_)
    · show ((l.take (i + 1)).filter kp).map f = ((l.take i).filter kp).map f ++ [f l[i]]
      rw [List.take_succ_eq_append_getElem hi, List.filter_append, List.map_append]
      simp [e]
    · show ((l.take (i + 1)).filter kp).map f = ((l.take i).filter kp).map f
      rw [List.take_succ_eq_append_getElem hi, List.filter_append]
      simp [e]
  · show kNew Q (.lst (((l.take l.length).filter kp).map f)) H
    rw [List.take_length]
    exact hk
end

theorem obl {H : Hp} {p : Addr} {xs : List V} {ns : List Int} [o : OB H p (.lst xs)] [a : ILs xs ns] : OB H p (.lst (ns.map V.int)) := ob_ints a o
theorem ref_non {p : Addr} : decide (V.ref p = V.non) = false := by simp
theorem int_non {p : Int} : decide (V.int p = V.non) = false := by simp
theorem all_mt {α : Type} {l : List α} : (l.map fun _ => true).all id = true := by simp
/-- the ways behind an if are joined -/
instance ilRep {k : Nat} {n : Int} : ILs (List.replicate k [V.int n]).flatten (List.replicate k n) := ⟨rep_one⟩
theorem rd_cut {t u : TS} {a : L2.St → Hp → Prop} {b : VK} {c d : L2.St → Hp → Prop} {σ : L2.St} {H : Hp} (Mid : L2.St → Hp → Prop) (h : t (Ends.mk Mid b c d) σ H) (k : ∀ σ' H', Mid σ' H' → u (Ends.mk a b c d) σ' H') : Evl.tCut t u (Ends.mk a b c d) σ H := ⟨Mid, h, k⟩

/-! ### objects of own classes -/
/-- what the written part says of a class with fields | of a class that isinstance asks for -/
structure OwnC (K : PySem.W.Frag) (C : Addr) : Prop where
  cl : Cls K C
  ha : PySem.W.findIn K (.ref C) "__class__" = some (some (.builtin "object.__class__"))
  hn : PySem.W.specialIn K (.builtin "object.__class__") "__get__" = some (some (.builtin "getset_descriptor.__get__"))
  ht : PySem.W.takesIn K (.builtin "object.__class__") = some true
  hm : PySem.W.mroIn K C (.type "object") = some true
structure AskC (K : PySem.W.Frag) (C : Addr) : Prop where
  hd : PySem.W.hasDictIn K C = true
  ty : PySem.W.typeIn K (.ref C) = some (.type "type")
theorem AskC.kit {K : PySem.W.Frag} {C : Addr} {t : Value} {b : Bool} (A : AskC K C) (hs : PySem.W.subIn K t (.ref C) = some b) (hne : (t == (.ref C : Value)) = true → b = true) : PySem.W.kitOne K t (.ref C) = some b := by
  unfold PySem.W.kitOne
  by_cases h : (t == (.ref C : Value)) = true
  · rw [if_pos h, hne h]
  · rw [if_neg h]
    show (if ((PySem.W.clsIn K C).isSome && PySem.W.typeIn K (.ref C) == some (.type "type")) = true then PySem.W.subIn K t (.ref C) else none) = some b
    have hd := A.hd
    unfold PySem.W.hasDictIn at hd
    have e : (PySem.W.clsIn K C).isSome = true := by
      revert hd
      cases PySem.W.clsIn K C <;> simp
    rw [e, A.ty]
    exact hs
class OwnI (K : PySem.W.Frag) (C : Addr) : Prop where h : OwnC K C
class NoaI (K : PySem.W.Frag) (C : Addr) (f : Str) : Prop where h : NoAttr K C f
class KitI (K : PySem.W.Frag) (D C : Addr) (b : outParam Bool) : Prop where h : PySem.W.kitOne K (.ref D) (.ref C) = some b
instance {K H a C dx fs} [o : OB H a (.ins C dx fs)] [c : OwnI K C] : TY K H (.ref a) (.ref C) := ⟨.base (.ins o.h c.h.cl c.h.ha c.h.hn c.h.ht c.h.hm)⟩
section
variable {K : PySem.W.Frag} {σ : L2.St} {H : Hp} {Q : VK} {D : Ends} {ta te tv : TE} {t : TA} {x y v : V} {a C dx : Addr} {f : Str} {fs : List (Str × V)} {sp : Sp} {E : XK}
theorem rd_isiC {b : Bool} {D C : Addr} [o : TY K H x (.ref D)] [e : KitI K D C b] (q : Q (.bl b) H) : rIsiB K [x, .ref C] H Q := ⟨x, _, _, _, b, rfl, .own C, o, e.h, q⟩
class LkI (fs : List (Str × V)) (f : Str) (v : outParam V) : Prop where h : fs.lookup f = some v
class NeS (f g : Str) : Prop where h : (f == g) = false
instance : NeS "left" "place" := ⟨by decide +kernel⟩
instance : NeS "carries" "row" := ⟨by decide +kernel⟩
instance lkHead {f : Str} {v : V} {r : List (Str × V)} : LkI ((f, v) :: r) f v := ⟨by simp⟩
instance (priority := 100) lkTail {f g : Str} {v w : V} {r : List (Str × V)} [n : NeS f g] [k : LkI r f v] : LkI ((g, w) :: r) f v := ⟨by rw [List.lookup_cons, n.h]; exact k.h⟩
def kFld (K : PySem.W.Frag) (f : Str) (Q : VK) : VK := fun x H1 => ∃ a C dx fs v, x = .ref a ∧ H1 a = some (.ins C dx fs) ∧ Cls K C ∧ NoAttr K C f ∧ fs.lookup f = some v ∧ Q v H1
theorem rd_fld (h : ta σ H (kFld K f Q)) : tFld K ta f σ H Q := h
theorem rd_kFld [o : OB H a (.ins C dx fs)] [c : OwnI K C] [n : NoaI K C f] [l : LkI fs f v] (q : Q v H) : kFld K f Q (.ref a) H := ⟨a, C, dx, fs, v, rfl, o.h, c.h.cl, n.h, l.h, q⟩
def kSF (K : PySem.W.Frag) (f : Str) (y : V) (D : Ends) (σ : L2.St) : VK := fun x H2 => ∃ a C dx fs, x = .ref a ∧ H2 a = some (.ins C dx fs) ∧ Cls K C ∧ NoAttr K C f ∧ fs.length < 1000 ∧ D.nx σ (upd H2 a (.ins C dx (putF f y fs)))
theorem rd_sfld (h : tv σ H fun y H1 => ta σ H1 (kSF K f y D σ)) : sFld K ta tv f D σ H := h
class PutI (f : Str) (y : V) (fs : List (Str × V)) (gs : outParam (List (Str × V))) : Prop where h : putF f y fs = gs
theorem rd_kSF {gs : List (Str × V)} [o : OB H a (.ins C dx fs)] [c : OwnI K C] [n : NoaI K C f] [g : PutI f y fs gs] (l : fs.length < 1000) (q : ∀ H', MU H' H a → OB H' a (.ins C dx gs) → D.nx σ H') : kSF K f y D σ (.ref a) H := ⟨a, C, dx, fs, rfl, o.h, c.h.cl, n.h, l, by
  rw [g.h]
  exact q _ MU.new OB.new⟩
theorem put_nil : putF f v [] = [(f, v)] := rfl
theorem put_two {g : Str} {w : V} (h : (f == g) = false) : putF f v [(g, w)] = [(g, w), (f, v)] := by
  have n : ¬ g = f := fun e => by rw [e] at h; simp at h
  show (if g = f then _ else (g, w) :: putF f v []) = _
  rw [if_neg n]
  rfl
instance putNil {f : Str} {y : V} : PutI f y [] [(f, y)] := ⟨rfl⟩
instance putHead {f : Str} {y w : V} {r : List (Str × V)} : PutI f y ((f, w) :: r) ((f, y) :: r) := ⟨by
  show (if f = f then _ else _) = _
  rw [if_pos rfl]⟩
instance (priority := 100) putTail {f g : Str} {y w : V} {r gs : List (Str × V)} [n : NeS f g] [k : PutI f y r gs] : PutI f y ((g, w) :: r) ((g, w) :: gs) := ⟨by
  have h := n.h
  have n : ¬ g = f := fun e => by rw [e] at h; simp at h
  show (if g = f then _ else (g, w) :: putF f y r) = _
  rw [if_neg n, k.h]⟩
/-- C(..) -/
def tMk (C : Addr) (sp : Sp) (E : XK) (t : TA) : TE := fun σ H Q => t σ H fun vs H1 => ∀ x dx H2, SM H2 H1 → FR0 H1 x → OB H2 x (.ins C dx []) → sp (.ref x :: vs) H2 (fun v H3 => v = .non ∧ Q (.ref x) H3) E
def kMk (C : Addr) (sp : Sp) (E : XK) (Q : VK) : List V → Hp → Prop := fun vs H1 => ∀ x dx H2, SM H2 H1 → FR0 H1 x → OB H2 x (.ins C dx []) → sp (.ref x :: vs) H2 (fun v H3 => v = .non ∧ Q (.ref x) H3) E
theorem rd_mk (h : t σ H (kMk C sp E Q)) : tMk C sp E t σ H Q := h
theorem rd_kMk {vs : List V} (h : ∀ x dx H2, SM H2 H → FR0 H x → OB H2 x (.ins C dx []) → sp (.ref x :: vs) H2 (fun v H3 => v = .non ∧ Q (.ref x) H3) E) : kMk C sp E Q vs H := h
/-- o.m(..) -/
def kMt (C : Addr) (m : Str) (sp : Sp) (E : XK) (t : TA) (σ : L2.St) (Q : VK) : VK := fun x H1 => ∃ a dx fs, x = .ref a ∧ H1 a = some (.ins C dx fs) ∧ fs.lookup m = none ∧ t σ H1 fun vs H2 => sp (x :: vs) H2 Q E
def tMt (C : Addr) (m : Str) (sp : Sp) (E : XK) (ta : TE) (t : TA) : TE := fun σ H Q => ta σ H (kMt C m sp E t σ Q)
theorem rd_mt {m : Str} (h : ta σ H (kMt C m sp E t σ Q)) : tMt C m sp E ta t σ H Q := h
theorem rd_kMt {m : Str} [o : OB H a (.ins C dx fs)] (n : fs.lookup m = none) (h : t σ H fun vs H2 => sp (.ref a :: vs) H2 Q E) : kMt C m sp E t σ Q (.ref a) H := ⟨a, dx, fs, rfl, o.h, n, h⟩
end
structure I0 (K : PySem.W.Frag) (C : Addr) (q : Str) (ps : List Str) (st : Stmt) : Prop where
  ex : ∃ f fd, Fun K "__init__" q st f fd ∧ Binds K fd ps [] ∧ Mk K C f
structure M0 (K : PySem.W.Frag) (C : Addr) (m q : Str) (ps : List Str) (st : Stmt) : Prop where
  ex : ∃ f fd, Fun K m q st f fd ∧ Binds K fd ps [] ∧ Meth K C m f
structure FnI (P : Program) (w : World) (K : PySem.W.Frag) (mg : Str → Option Value) (base : Heap) (C : Addr) (ps : List Str) (k : Nat) (sp : Sp) : Prop where
  ex : ∃ f fd, FnOk P w K mg base CX0 k f fd ps sp ∧ Binds K fd ps [] ∧ Mk K C f
structure FnM (P : Program) (w : World) (K : PySem.W.Frag) (mg : Str → Option Value) (base : Heap) (C : Addr) (m : Str) (ps : List Str) (k : Nat) (sp : Sp) : Prop where
  ex : ∃ f fd, FnOk P w K mg base CX0 k f fd ps sp ∧ Binds K fd ps [] ∧ Meth K C m f
section
variable {P : Program} {w : World} {K : PySem.W.Frag} {mg : Str → Option Value} {base : Heap} {C : Addr}
theorem I0.ok {q : Str} {ps : List Str} {st : Stmt} {N : List Str} {k : Nat} {sp : Sp} (F : I0 K C q ps st) (S : FnScope N ps (defScope st)) (len : ∀ vs H Q E, sp vs H Q E → vs.length = ps.length)
    (hbody : ∀ (f : Addr) (cdv : Value) (A : Around) (outer : List Env) (s : Shared) (H : Hp) (vs : List V) (Q : VK) (E : XK), Room k (A.deeper (PyProof.Rows.envOfC q (defScope st) s.heap.objs.size f cdv)) → sp vs H Q E →
      ∃ t, PSs (cxOf CX0 P w K mg base N q (defScope st) f cdv A outer s H E).nox (defBody st) t ∧ t { nx := fun _ H' => Q .non H', rt := Q } (start N vs) H) : FnI P w K mg base C ps (k + 1) sp := by
  obtain ⟨f, fd, F, b, m⟩ := F.ex
  exact ⟨f, fd, F.ok S len (hbody f), b, m⟩
theorem M0.ok {m q : Str} {ps : List Str} {st : Stmt} {N : List Str} {k : Nat} {sp : Sp} (F : M0 K C m q ps st) (S : FnScope N ps (defScope st)) (len : ∀ vs H Q E, sp vs H Q E → vs.length = ps.length)
    (hbody : ∀ (f : Addr) (cdv : Value) (A : Around) (outer : List Env) (s : Shared) (H : Hp) (vs : List V) (Q : VK) (E : XK), Room k (A.deeper (PyProof.Rows.envOfC q (defScope st) s.heap.objs.size f cdv)) → sp vs H Q E →
      ∃ t, PSs (cxOf CX0 P w K mg base N q (defScope st) f cdv A outer s H E).nox (defBody st) t ∧ t { nx := fun _ H' => Q .non H', rt := Q } (start N vs) H) : FnM P w K mg base C m ps (k + 1) sp := by
  obtain ⟨f, fd, F, b, m⟩ := F.ex
  exact ⟨f, fd, F.ok S len (hbody f), b, m⟩
end
section
variable {X : Cx} {x : Str} {ps : List Str} {j k : Nat} {sp : Sp} {e o : Expr} {es : List Expr} {t : TA} {ta : TE} {p pos : Pos} {C : Addr} {m : Str}
theorem app_nil_fun {sp : Sp} {Q : VK} {E : XK} {x : List V} : (fun (vs : List V) (H1 : Hp) => sp (x ++ (vs ++ [])) H1 Q E) = fun vs H1 => sp (x ++ vs) H1 Q E := by
  funext vs H1
  rw [List.append_nil]
theorem pe_mk (F : FnI X.prog X.w X.K X.mg X.base C ps j sp) (hr : Room k X.A) (hg : Gl X x) (hm : X.mg x = some (.ref C)) (ha : PA X (e :: es) t) (hl : j + 1 ≤ k := by decide) (hdb : (x == ("__debug__" : Str)) = false := by decide)
    (he : starEach (e :: es) X.env = (false, eval e X.env) :: starEach es X.env := by rfl) (hpl : (backTo pos (starEach es X.env)).any (·.1) = false := by rfl) : PE X (.Call (.Name x p) (e :: es) [] pos) (tMk C sp E0 t) := by
  obtain ⟨f, fd, G, b, M⟩ := F.ex
  refine pe_weak (pe_make M G (hr.mono hl) hg hm b .nil pass0 (pa_up ha) hdb (by exact he) hpl) fun σ H Q a => ?_
  refine ⟨_, a, fun vs H1 h => ?_⟩
  intro x dx hx hd hne
  rw [List.append_nil]
  refine h x dx _ ⟨fun b o q => ?_⟩ ⟨hx⟩ OB.new
  rw [upd_ne (ne_of_none q hx), upd_ne (ne_of_none q hd)]
  exact q
end

section
variable {X : Cx} {e : Expr} {ta : TE} {t : TA} {C : Addr} {m : Str} {sp : Sp} {E : XK}
theorem mt_of (h : PE X e (tMeth C m sp [] E (upE ta) t)) : PE X e (tMt C m sp E ta t) := pe_weak h fun σ H Q a => by
  refine ⟨_, a, fun x H1 ⟨a, dx, fs, e1, o, n, q⟩ => ⟨a, dx, fs, e1, o, n, ?_⟩⟩
  have e2 : (fun (vs : List V) (H2 : Hp) => sp (x :: (vs ++ [])) H2 Q E) = fun vs H2 => sp (x :: vs) H2 Q E := by
    funext vs H2
    rw [List.append_nil]
  rw [e2]
  exact q
end

section
variable {X : Cx} {K : PySem.W.Frag} {e o value : Expr} {f : Str} {pos pos' : Pos} {ta tv : TE}
theorem pe_fldK (hK : X.K = K) (he : PE X e ta) (hb : attributeBase e f X.env (eval e X.env) = eval e X.env) : PE X (.Attribute e f pos) (tFld K ta f) := by
  subst hK
  exact pe_fld he hb
theorem ps_fldK (hK : X.K = K) (ha : PE X o ta) (hv : PE X value tv) (hs : swapsWith value (some (.Attribute o f pos')) pos.line X.env = pure false) : PS X (.Assign [.Attribute o f pos'] value pos) (sFld K ta tv f) := by
  subst hK
  exact ps_fld ha hv hs
end
theorem mu_two {H H1 H2 : Hp} {p : Addr} (a : MU H1 H p) (b : MU H2 H1 p) : MU H2 H p := ⟨fun c o n h => b.s c o n (a.s c o n h)⟩
/-! ### list(range(i, j, c)) -/
def stepsV (i c : Int) (n : Nat) : List V := (List.range n).map fun k => V.int (i + (k : Nat) * c)
def kLR3 (Q : VK) : List V → Hp → Prop := fun vs H => ∃ (i j c : Int) (n : Nat), vs = [.int i, .int j, .int c] ∧ RgC i j c n ∧ n ≤ 100000 ∧ kNew Q (.lst (stepsV i c n)) H
def tLR3 (ta : TA) : TE := fun σ H Q => ta σ H (kLR3 Q)
section
variable {X : Cx} {a b c : Expr} {ta : TA} {p p2 pos pos2 : Pos}
theorem made_range3 (hg2 : Gl X "range") (hm2 : X.mg "range" = none) (ha : PA X [a, b, c] ta) (hs : starEach [a, b, c] X.env = (false, eval a X.env) :: starEach [b, c] X.env) (hpl : (backTo pos2 (starEach [b, c] X.env)).any (·.1) = false)
    {pins : List (Addr × Obj)} {s : Shared} {σ : L2.St} {H : Hp} {Q : VK} (I : Inv X pins σ H s) (h : ta σ H (kLR3 Q)) :
    wpAny (model X.prog X.w) X.A (eval (.Call (.Name "range" p2) [a, b, c] [] pos2) X.env) (fun x s' => ∃ r i j k t u v n H', x = .ref r ∧ IsRange s'.heap r i j k t u v ∧ Inv X pins σ H' s' ∧ RgC i j k n ∧ n ≤ 100000 ∧ kNew Q (.lst (stepsV i k n)) H') X.xe s := by
  refine PyProof.Rows.Call_ (ld_blt I hg2 hm2 PyProof.Rows.boot_range (PyProof.Rows.callWith_type1 (thn (ha.run pos2 pins s σ H _ I h) ?_) hs hpl))
  rintro us s1 ⟨vs, H1, I1, r1, i, j, k, n, e, rg, hn, q⟩
  subst e
  obtain ⟨u1, r2, rfl, w1, rr⟩ : ∃ u r, us = u :: r ∧ RelV (.int i) u ∧ Vals [.int j, .int k] r := by
    cases r1 with
    | cons x y => exact ⟨_, _, rfl, x, y⟩
  obtain ⟨u2, u3, rfl, w2, w3⟩ := vals2 rr
  obtain ⟨t1, rfl⟩ := w1
  obtain ⟨t2, rfl⟩ := w2
  obtain ⟨t3, rfl⟩ := w3
  have keep : Inv X pins σ H1 { s1 with heap := s1.heap.push { cls := .type "range", data := .fields #[.int i t1, .int j t2, .int k t3] } } := I1.kept (t' := s1.toks) fun z o hz => Heap.get?_push_of_some _ hz
  exact call_range_3 rg.1 ⟨_, i, j, k, t1, t2, t3, n, H1, rfl, IsRange.new .., keep, rg, hn, q⟩ (.inl (PyProof.noPylong_small rg.2.1))
theorem pe_listR3 (hc : X.calm = true) (hg : Gl X "list") (hm : X.mg "list" = none) (hg2 : Gl X "range") (hm2 : X.mg "range" = none) (ha : PA X [a, b, c] ta)
    (hs : starEach [a, b, c] X.env = (false, eval a X.env) :: starEach [b, c] X.env := by rfl) (hpl : (backTo pos2 (starEach [b, c] X.env)).any (·.1) = false := by rfl)
    (na : starEach [.Call (.Name "range" p2) [a, b, c] [] pos2] X.env = (false, eval (.Call (.Name "range" p2) [a, b, c] [] pos2) X.env) :: starEach [] X.env := by rfl) :
    PE X (.Call (.Name "list" p) [.Call (.Name "range" p2) [a, b, c] [] pos2] [] pos) (tLR3 ta) := by
  refine ⟨fun pins s σ H Q I h => ?_⟩
  refine PyProof.Rows.Call_ (ld_blt I hg hm PyProof.Rows.boot_list (PyProof.Rows.callWith_type1 (PyProof.Rows.args_cons (thn (made_range3 hg2 hm2 ha hs hpl I h) ?_) na) na))
  rintro x s1 ⟨r, i, j, k, t, u, v, n, H1, rfl, hr, I1, rg, hn, q⟩
  refine PyProof.Rows.args_nil (call_list_range (n := n) (I1.ok.hd hc) hr rg.2.2.1 rg.2.2.2 (Nat.le_trans hn (by decide)) ?_)
  intro h' tk acc c' hk e' hi
  have len : acc.toList.length = n := by rw [Array.length_toList]; exact hi.1
  have hv : Vals (stepsV i k n) acc.toList := by
    unfold stepsV
    rw [← len]
    refine L2.vals_of_get acc.toList _ fun m w hw => hi.2 m w (by rw [← hw, Array.getElem?_toList])
  have okk : ObjOk X.prog X.w (upd H1 s1.heap.objs.size (.lst (stepsV i k n))) h' s1.heap.objs.size (.lst (stepsV i k n)) := ⟨by unfold stepsV; rw [List.length_map, List.length_range]; exact small_of hn, acc.toList, c', hv, by rw [Array.toArray_toList]; exact e'⟩
  exact ⟨.ref s1.heap.objs.size, _, I1.laid hk (Nat.le_refl _) okk, rfl, q.of _ (I1.hok.fresh (Nat.le_refl _))⟩
end
theorem rd_LR3 {ta : TA} {σ : L2.St} {H : Hp} {Q : VK} (h : ta σ H (kLR3 Q)) : tLR3 ta σ H Q := h
theorem rd_kLR3 {Q : VK} {H : Hp} {i j c : Int} {n : Nat} (h : RgC i j c n) (hn : n ≤ 100000) (q : kNew Q (.lst (stepsV i c n)) H) : kLR3 Q [.int i, .int j, .int c] H := ⟨i, j, c, n, rfl, h, hn, q⟩
theorem stepsV_ints {i c : Int} {n : Nat} : stepsV i c n = ((List.range n).map fun k : Nat => i + (k : Int) * c).map V.int := by
  unfold stepsV
  rw [List.map_map]
  rfl
instance ilSteps {i c : Int} {n : Nat} : ILs (stepsV i c n) ((List.range n).map fun k : Nat => i + (k : Int) * c) := ⟨stepsV_ints⟩
theorem rd_xF {A B X Y : Prop} [Decidable A] [Decidable B] (h : A ↔ B) (k : Y) : if (decide (decide A ≠ decide B)) = true then X else Y := by
  have e : decide A = decide B := by
    rw [Bool.eq_iff_iff, decide_eq_true_iff, decide_eq_true_iff]
    exact h
  rw [e]
  exact rd_F (by simp) k
/-! ### lists of lists -/
/-- all but what p holds stays, p's list too may change -/
inductive Fa {α β : Type} (R : α → β → Prop) : List α → List β → Prop
  | nil : Fa R [] []
  | cons {x y xs ys} : R x y → Fa R xs ys → Fa R (x :: xs) (y :: ys)
section
variable {α β : Type} {R S : α → β → Prop} {xs us : List α} {ys ws : List β}
theorem Fa.imp (h : Fa R xs ys) (i : ∀ x y, R x y → S x y) : Fa S xs ys := by
  induction h with
  | nil => exact .nil
  | cons a _ ih => exact .cons (i _ _ a) ih
theorem Fa.len (h : Fa R xs ys) : xs.length = ys.length := by
  induction h with
  | nil => rfl
  | cons _ _ ih => rw [List.length_cons, List.length_cons, ih]
theorem Fa.app (h : Fa R xs ys) (k : Fa R us ws) : Fa R (xs ++ us) (ys ++ ws) := by
  induction h with
  | nil => exact k
  | cons a _ ih => exact .cons a ih
theorem Fa.get (h : Fa R xs ys) : ∀ {i : Nat} {x : α}, xs[i]? = some x → ∃ y, ys[i]? = some y ∧ R x y := by
  induction h with
  | nil => intro i x e; simp at e
  | cons a _ ih =>
    intro i x e
    cases i with
    | zero => exact ⟨_, rfl, by rw [← Option.some.inj e]; exact a⟩
    | succ i => exact ih (i := i) e
theorem Fa.get2 (h : Fa R xs ys) : ∀ {i : Nat} {y : β}, ys[i]? = some y → ∃ x, xs[i]? = some x ∧ R x y := by
  induction h with
  | nil => intro i x e; simp at e
  | cons a _ ih =>
    intro i x e
    cases i with
    | zero => exact ⟨_, rfl, by rw [← Option.some.inj e]; exact a⟩
    | succ i => exact ih (i := i) e
end
/-- a list of ints stands at v -/
def LI (H : Hp) (v : V) (ns : List Int) : Prop := ∃ q, v = .ref q ∧ OB H q (.lst (ns.map V.int))
theorem LI.mono {H G : Hp} {v : V} {ns : List Int} (s : SX H G) (h : LI G v ns) : LI H v ns := by
  obtain ⟨q, e, o⟩ := h
  exact ⟨q, e, ⟨s.s _ _ o.h⟩⟩
theorem LI.mut {H G : Hp} {v : V} {ns : List Int} {p : Addr} (s : MU H G p) (hp : ∀ q, v = .ref q → q ≠ p) (h : LI G v ns) : LI H v ns := by
  obtain ⟨q, e, o⟩ := h
  exact ⟨q, e, ⟨s.s _ _ (hp q e) o.h⟩⟩
class LLs (H : Hp) (xs : List V) (nss : outParam (List (List Int))) : Prop where h : Fa (LI H) xs nss
instance llNil {H} : LLs H [] [] := ⟨.nil⟩
instance llCons {H q xs ys ns nss} [o : OB H q (.lst ys)] [e : ILs ys ns] [r : LLs H xs nss] : LLs H (.ref q :: xs) (ns :: nss) := ⟨.cons ⟨q, rfl, ob_ints e o⟩ r.h⟩
instance (priority := 200) LLs.mono {H G : Hp} {xs : List V} {nss : List (List Int)} [a : SM H G] [b : LLs G xs nss] : LLs H xs nss := ⟨b.h.imp fun _ _ h => h.mono ⟨a.s⟩⟩
theorem LLs.up {H G : Hp} {xs : List V} {nss : List (List Int)} (b : LLs G xs nss) [a : SX H G] : LLs H xs nss := ⟨b.h.imp fun _ _ h => h.mono a⟩
theorem LLs.get {H : Hp} {xs : List V} {nss : List (List Int)} (b : LLs H xs nss) {i : Nat} {v : V} (e : xs[i]? = some v) : ∃ q ns, v = .ref q ∧ nss[i]? = some ns ∧ OB H q (.lst (ns.map V.int)) := by
  obtain ⟨ns, e2, q, e3, o⟩ := b.h.get e
  exact ⟨q, ns, e3, e2, o⟩
section
variable {K : PySem.W.Frag} {σ : L2.St} {H : Hp} {Q : VK} {g : TG} {tt : TT} {te : TE} {vs : List Nat} {J : It} {n : Nat} {ok : Hp → Prop} {it : Nat → V → Hp → Hp → Prop}
/-- elements that stand to the items as p says -/
theorem lcRel {α : Type} (l : List α) (kp : α → Bool) (p : Hp → V → α → Prop) (pm : ∀ H H' v x, SM H' H → p H v x → p H' v x) (Y : It1 J n ok it) (hn : n = l.length) (hl : l.length ≤ 100000) (hok : ∀ H', SM H' H → ok H')
    (hs : ∀ i x v H' H'' D acc, l[i]? = some x → SM H' H → FR0 H D → OB H' D (.lst acc) → it i v H' H'' → ∀ (Nt : VK) (Nf : Hp → Prop), (∀ y H4, kp x = true → SM H4 H' → (∀ H5, MU H5 H4 D → p H5 y x) → Nt y H4) → (∀ H4, kp x = false → SM H4 H' → Nf H4) →
      g v (wipe σ vs) H'' fun σ2 H2 => wipe σ2 vs = wipe σ vs ∧ tt σ2 H2 fun b H3 => if b = true then te σ2 H3 Nt else Nf H3)
    (hk : ∀ D ys H', SM H' H → FR0 H D → OB H' D (.lst ys) → Fa (p H') ys (l.filter kp) → Q (.ref D) H') : kLc g tt te vs σ Q J H := by
  subst hn
  intro D hD
  refine ⟨fun i m H' => m = l.length - i ∧ i ≤ l.length ∧ SM H' H ∧ ∃ ys, H' D = some (.lst ys) ∧ ∀ H5, MU H5 H' D → Fa (p H5) ys ((l.take i).filter kp), ⟨l.length, by simp, Nat.zero_le _, SM.new hD, [], upd_same, fun _ _ => by simp; exact .nil⟩, ?_⟩
  rintro i m H' ⟨rfl, hi, s, ys, d, hf⟩
  by_cases hlt : i < l.length
  · refine .inr ⟨Y.go i H' hlt (hok _ s), fun H4 => SM H4 H ∧ ∃ ys, H4 D = some (.lst ys) ∧ ∀ H5, MU H5 H4 D → Fa (p H5) ys ((l.take (i + 1)).filter kp), fun H4 p' => ⟨l.length - (i + 1), by omega, rfl, hlt, p'⟩, fun v H'' y => ?_⟩
    have tk : (l.take (i + 1)).filter kp = (l.take i).filter kp ++ (if kp l[i] = true then [l[i]] else []) := by
      rw [List.take_succ_eq_append_getElem hlt, List.filter_append]
      congr 1
      by_cases h : kp l[i] = true <;> simp [h]
    refine hs i l[i] v H' H'' D ys (List.getElem?_eq_getElem hlt) s ⟨hD⟩ ⟨d⟩ (Y.yld i v H' H'' hlt (hok _ s) y) _ _ (fun y H4 e s4 py => ?_) (fun H4 e s4 => ?_)
    · have len : ys.length ≤ 100000 := by
        have h1 := (hf _ ⟨fun _ _ _ h => h⟩).len
        have h2 := List.length_filter_le kp (l.take i)
        rw [List.length_take] at h2
        omega
      have len2 : ys.length < 100000 := by
        have h1 := (hf _ ⟨fun _ _ _ h => h⟩).len
        have h2 := List.length_filter_le kp (l.take i)
        rw [List.length_take] at h2
        omega
      refine ⟨ys, s4.s _ _ d, slt_of len2, ⟨fun b o h => ?_⟩, _, upd_same, fun H5 m5 => ?_⟩
      · rw [upd_ne (ne_of_none h hD)]
        exact s4.s _ _ (s.s _ _ h)
      · have m6 : MU H5 H4 D := ⟨fun c o n h => m5.s c o n (by rw [upd_ne n]; exact h)⟩
        have m7 : MU H5 H' D := ⟨fun c o n h => m6.s c o n (s4.s _ _ h)⟩
        rw [tk, if_pos e]
        exact (hf _ m7).app (.cons (py _ m6) .nil)
    · refine ⟨⟨fun b o h => s4.s _ _ (s.s _ _ h)⟩, ys, s4.s _ _ d, fun H5 m5 => ?_⟩
      rw [tk, if_neg (by rw [e]; exact Bool.false_ne_true), List.append_nil]
      exact hf _ ⟨fun c o n h => m5.s c o n (s4.s _ _ h)⟩
  · have e : i = l.length := by omega
    subst e
    refine .inl ⟨Y.stop H' (hok _ s), hk D ys H' s ⟨hD⟩ ⟨d⟩ ?_⟩
    have := hf H' ⟨fun _ _ _ h => h⟩
    rwa [List.take_length] at this
end
/-! ### one step of a reading, found by its head -/
class Rd (P : Prop) (P' : outParam Prop) : Prop where h : P' → P
theorem rdx {P P' : Prop} [r : Rd P P'] (h : P') : P := r.h h
class SlotI (σ : L2.St) (i : Nat) (v : outParam V) : Prop where h : σ[i]? = some (some v)
instance slotH {v : V} {r : L2.St} : SlotI (some v :: r) 0 v := ⟨rfl⟩
instance slotT {o : Option V} {r : L2.St} {i : Nat} {v : V} [s : SlotI r i v] : SlotI (o :: r) (i + 1) v := ⟨s.h⟩
class SetI (σ : L2.St) (i : Nat) (x : Option V) (σ' : outParam L2.St) : Prop where h : σ.set i x = σ'
instance setH {o x : Option V} {r : L2.St} : SetI (o :: r) 0 x (x :: r) := ⟨rfl⟩
instance setT {o x : Option V} {r r' : L2.St} {i : Nat} [s : SetI r i x r'] : SetI (o :: r) (i + 1) x (o :: r') := ⟨by rw [List.set_cons_succ, s.h]⟩
class NormSt (σ : L2.St) (σ' : outParam L2.St) : Prop where h : σ = σ'
instance nsNil : NormSt (L2.start [] []) [] := ⟨rfl⟩
instance nsNone {n : Str} {N : List Str} {σ : L2.St} [s : NormSt (L2.start N []) σ] : NormSt (L2.start (n :: N) []) (none :: σ) := ⟨by
  rw [← s.h]
  show List.replicate (N.length + 1) none = none :: List.replicate (N.length - 0) none
  rw [Nat.sub_zero, List.replicate_succ]⟩
instance nsSome {n : Str} {N : List Str} {v : V} {vs : List V} {σ : L2.St} [s : NormSt (L2.start N vs) σ] : NormSt (L2.start (n :: N) (v :: vs)) (some v :: σ) := ⟨by
  rw [← s.h]
  show some v :: vs.map some ++ List.replicate (N.length + 1 - (vs.length + 1)) none = some v :: (vs.map some ++ List.replicate (N.length - vs.length) none)
  rw [Nat.add_sub_add_right]
  rfl⟩
instance setS {N : List Str} {vs : List V} {σ σ' : L2.St} {i : Nat} {x : Option V} [n : NormSt (L2.start N vs) σ] [s : SetI σ i x σ'] : SetI (L2.start N vs) i x σ' := ⟨by rw [n.h]; exact s.h⟩
instance slotS {N : List Str} {vs : List V} {σ : L2.St} {i : Nat} {v : V} [n : NormSt (L2.start N vs) σ] [s : SlotI σ i v] : SlotI (L2.start N vs) i v := ⟨by rw [n.h]; exact s.h⟩
class AtI (xs : List V) (z : Int) (v : outParam V) : Prop where h : atI xs z = some v
instance at0 {v : V} {r : List V} : AtI (v :: r) 0 v := ⟨at_of (j := 0) rfl rfl⟩
instance at1 {u v : V} {r : List V} : AtI (u :: v :: r) 1 v := ⟨at_of (j := 1) rfl rfl⟩
instance at2 {u w v : V} {r : List V} : AtI (u :: w :: v :: r) 2 v := ⟨at_of (j := 2) rfl rfl⟩
section
variable {K : PySem.W.Frag} {σ σ' : L2.St} {H : Hp} {Q : VK} {D : Ends} {t u : TS} {ta tb tc te tv : TE} {x y v z : V} {i j l : Nat} {r r' : R2} {p q : Addr} {xs ys vs : List V}
variable {a : L2.St → Hp → Prop} {b : VK} {c d : L2.St → Hp → Prop} {g : TG} {N : L2.St → Hp → Prop} {R : Bool → Hp → Prop} {cc dd : TT} {tA : TA} {RL : List V → Hp → Prop} {RI : It → Hp → Prop} {ROp : Option Int → Hp → Prop} {sp : Sp} {E : XK} {A B : Prop} {C dx : Addr} {f m : Str} {fs : List (Str × V)}
instance : Rd (tSeq t u (Ends.mk a b c d) σ H) (t (Ends.mk (u (Ends.mk a b c d)) b c d) σ H) := ⟨fun h => h⟩
instance : Rd (tNext (Ends.mk a b c d) σ H) (a σ H) := ⟨fun h => h⟩
instance : Rd (tAsg te g (Ends.mk a b c d) σ H) (te σ H fun x H1 => g x σ H1 a) := ⟨fun h => h⟩
instance [s : SetI σ i (some v) σ'] : Rd (gName i v σ H N) (N σ' H) := ⟨fun h => by
  show N (σ.set i (some v)) H
  rw [s.h]; exact h⟩
instance [s : SlotI σ i v] : Rd (tVar i σ H Q) (Q v H) := ⟨fun h => ⟨v, s.h, h⟩⟩
instance : Rd (tC v σ H Q) (Q v H) := ⟨fun h => h⟩
instance : Rd (tOp r ta tb σ H Q) (ta σ H fun x H1 => tb σ H1 fun y H2 => r x y H2 Q) := ⟨fun h => h⟩
instance {r : V → Hp → VK → Prop} : Rd (tUn r ta σ H Q) (ta σ H fun x H1 => r x H1 Q) := ⟨fun h => h⟩
instance {k : Int → Int → V} {a b : Int} : Rd (rI0 k (.int a) (.int b) H Q) (Q (k a b) H) := ⟨rd_I0⟩
instance {k : Int → V} {a : Int} : Rd (rU k (.int a) H Q) (Q (k a) H) := ⟨rd_U⟩
instance : Rd (tFn sp E tA σ H Q) (tA σ H fun vs H1 => sp vs H1 Q E) := ⟨fun h => h⟩
instance {tr : TA} : Rd (tCons ta tr σ H RL) (ta σ H fun x H1 => tr σ H1 fun xs H2 => RL (x :: xs) H2) := ⟨fun h => h⟩
instance : Rd (tNil σ H RL) (RL [] H) := ⟨fun h => h⟩
instance {k : List V → Hp → VK → Prop} : Rd (tCB k tA σ H Q) (tA σ H fun vs H1 => k vs H1 Q) := ⟨fun h => h⟩
instance : Rd (tIfS cc t u (Ends.mk a b c d) σ H) (cc σ H fun z H1 => if z = true then t (Ends.mk a b c d) σ H1 else u (Ends.mk a b c d) σ H1) := ⟨fun h => h⟩
instance : Rd (tIf cc ta tb σ H Q) (cc σ H fun z H1 => if z = true then ta σ H1 Q else tb σ H1 Q) := ⟨fun h => h⟩
instance : Rd (tTest te σ H R) (te σ H (kBl R)) := ⟨fun h => h⟩
instance : Rd (tB te σ H R) (te σ H (kBl R)) := ⟨fun h => h⟩
instance {w : Bool} : Rd (kBl R (.bl w) H) (R w H) := ⟨fun h => ⟨w, rfl, h⟩⟩
instance : Rd (tDrop te (Ends.mk a b c d) σ H) (te σ H fun _ H1 => a σ H1) := ⟨fun h => h⟩
instance : Rd (tRet te (Ends.mk a b c d) σ H) (te σ H b) := ⟨fun h => h⟩
instance : Rd (tRetN (Ends.mk a b c d) σ H) (b .non H) := ⟨fun h => h⟩
instance : Rd (tBreak (Ends.mk a b c d) σ H) (c σ H) := ⟨fun h => h⟩
instance : Rd (tCont (Ends.mk a b c d) σ H) (d σ H) := ⟨fun h => h⟩
instance {a b : Int} : Rd (rEq (.int a) (.int b) H Q) (Q (.bl (decide (a = b))) H) := ⟨rd_eqI⟩
instance {a b : Int} : Rd (rNe (.int a) (.int b) H Q) (Q (.bl (decide (a ≠ b))) H) := ⟨rd_neI⟩
instance {a b : Bool} : Rd (rEq (.bl a) (.bl b) H Q) (Q (.bl (decide (a = b))) H) := ⟨rd_eqB⟩
instance {a b : Bool} : Rd (rNe (.bl a) (.bl b) H Q) (Q (.bl (decide (a ≠ b))) H) := ⟨rd_neB⟩
instance : Rd (tAnd cc dd σ H R) (cc σ H fun c H1 => if c = true then dd σ H1 R else R false H1) := ⟨fun h => h⟩
instance : Rd (tOr cc dd σ H R) (cc σ H fun c H1 => if c = true then R true H1 else dd σ H1 R) := ⟨fun h => h⟩
instance : Rd (tNot cc σ H R) (cc σ H fun c H1 => R (!c) H1) := ⟨fun h => h⟩
instance : Rd (tAndV ta tb σ H Q) (ta σ H (kAnd tb σ Q)) := ⟨fun h => h⟩
instance : Rd (tOrV ta tb σ H Q) (ta σ H (kOr tb σ Q)) := ⟨fun h => h⟩
instance : Rd (tNotV ta σ H Q) (ta σ H (kNot Q)) := ⟨fun h => h⟩
instance {w : Bool} : Rd (kAnd tb σ Q (.bl w) H) (if w = true then tb σ H Q else Q (.bl false) H) := ⟨fun h => ⟨w, rfl, h⟩⟩
instance {w : Bool} : Rd (kOr tb σ Q (.bl w) H) (if w = true then Q (.bl true) H else tb σ H Q) := ⟨fun h => ⟨w, rfl, h⟩⟩
instance {w : Bool} : Rd (kNot Q (.bl w) H) (Q (.bl (!w)) H) := ⟨fun h => ⟨w, rfl, h⟩⟩
instance : Rd (tTupB tA σ H Q) (tA σ H (kTup Q)) := ⟨fun h => h⟩
instance : Rd (tLstB tA σ H Q) (tA σ H (kLst Q)) := ⟨fun h => h⟩
instance : Rd (tRevB te σ H Q) (te σ H (kRev Q)) := ⟨fun h => h⟩
instance : Rd (tChain r r' ta tb tc σ H Q) (ta σ H fun x H1 => tb σ H1 fun y H2 => r x y H2 (kCh r' tc y σ Q)) := ⟨fun h => h⟩
instance {w : Bool} : Rd (kCh r' tc y σ Q (.bl w) H) (if w = true then tc σ H fun w' H4 => r' y w' H4 Q else Q (.bl false) H) := ⟨fun h => ⟨w, rfl, h⟩⟩
instance : Rd (tPar i j tA (Ends.mk a b c d) σ H) (tA σ H (kPar i j σ a)) := ⟨fun h => h⟩
instance {σ2 : L2.St} [s : SetI σ i (some x) σ'] [s2 : SetI σ' j (some y) σ2] : Rd (kPar i j σ N [x, y] H) (N σ2 H) := ⟨fun h => ⟨x, y, rfl, by rw [s.h, s2.h]; exact h⟩⟩
instance : Rd (tPar3 i j l tA (Ends.mk a b c d) σ H) (tA σ H (kPar3 i j l σ a)) := ⟨fun h => h⟩
instance {σ2 σ3 : L2.St} [s : SetI σ i (some x) σ'] [s2 : SetI σ' j (some y) σ2] [s3 : SetI σ2 l (some z) σ3] : Rd (kPar3 i j l σ N [x, y, z] H) (N σ3 H) := ⟨fun h => ⟨x, y, z, rfl, by rw [s.h, s2.h, s3.h]; exact h⟩⟩
instance {T : String} {k : V → List V → Hp → VK → Prop} : Rd (tBM K T k te tA σ H Q) (te σ H (kBM K T k σ tA Q)) := ⟨fun h => h⟩
instance [o : OB H p (.lst xs)] {k : V → List V → Hp → VK → Prop} : Rd (kBM K "list" k σ tA Q (.ref p) H) (tA σ H fun xs H2 => k (.ref p) xs H2 Q) := ⟨rd_kBM⟩
instance {T : String} {k : V → List V → Hp → VK → Prop} : Rd (tBM0 K T k te σ H Q) (te σ H (kBM0 K T k Q)) := ⟨fun h => h⟩
instance [o : OB H p (.lst xs)] {k : V → List V → Hp → VK → Prop} : Rd (kBM0 K "list" k Q (.ref p) H) (k (.ref p) [] H Q) := ⟨rd_kBM0⟩
instance (priority := 1100) [o : OB H p (.lst xs)] {ns : List Int} [e : ILs xs ns] : Rd (rLenB [.ref p] H Q) (Q (.int (ns.length : Int)) H) := ⟨rd_lenI⟩
instance [o : OB H p (.lst xs)] : Rd (rLenB [.ref p] H Q) (Q (.int (xs.length : Int)) H) := ⟨rd_len⟩
instance [o : OB H p (.tup xs)] : Rd (rLenTB [.ref p] H Q) (Q (.int (xs.length : Int)) H) := ⟨rd_lenT⟩
instance {ns : List Int} [o : IR K H p ns] : Rd (rLenRB K [.ref p] H Q) (Q (.int (ns.length : Int)) H) := ⟨rd_lenR⟩
instance {bs : List Bool} [o : OB H p (.lst xs)] [e : BLs xs bs] : Rd (rAllB [.ref p] H Q) (Q (.bl (bs.all id)) H) := ⟨rd_allB⟩
instance {bs : List Bool} [o : OB H p (.lst xs)] [e : BLs xs bs] : Rd (rAnyB [.ref p] H Q) (Q (.bl (bs.any id)) H) := ⟨rd_anyB⟩
instance {ns : List Int} [o : OB H p (.lst xs)] [e : ILs xs ns] : Rd (rSumB [.ref p] H Q) (Q (.int ns.sum) H) := ⟨rd_sumB⟩
class EqD (d e : PyData) (s : outParam Bool) : Prop where h : PyData.eqv d e = s
instance {ns ms : List Int} : EqD (.list (ns.map PyData.int)) (.list (ms.map PyData.int)) (decide (ns = ms)) := ⟨eqv_lst ns ms⟩
instance {a b c d : Int} : EqD (.tuple [.int a, .int b]) (.tuple [.int c, .int d]) (decide (a = c ∧ b = d)) := ⟨by
  simp only [PyData.eqv, PyData.eqvAll, Bool.and_true]
  rw [Bool.eq_iff_iff]
  simp⟩
instance {d e : PyData} {s : Bool} [o : DP K H x d] [o' : DP K H y e] [k : EqD d e s] : Rd (rEqB K x y H Q) (Q (.bl s) H) := ⟨fun h => ⟨d, e, o, o', by rw [k.h]; exact h⟩⟩
instance {d e : PyData} {s : Bool} [o : DP K H x d] [o' : DP K H y e] [k : EqD d e s] : Rd (rNeB K x y H Q) (Q (.bl (!s)) H) := ⟨fun h => ⟨d, e, o, o', by rw [k.h]; exact h⟩⟩
instance {w : Bool} {S T : String} [o : TY K H x (.type S)] [e : KT S T w] : Rd (rIsiB K [x, .ty T] H Q) (Q (.bl w) H) := ⟨rd_isi⟩
instance {w : Bool} {D C : Addr} [o : TY K H x (.ref D)] [e : KitI K D C w] : Rd (rIsiB K [x, .ref C] H Q) (Q (.bl w) H) := ⟨rd_isiC⟩
instance {t : TGs} {N : L2.St → Hp → Prop} [o : OB H p (.tup [x, y])] : Rd (gTupB 2 t (.ref p) σ H N) (t [x, y] σ H N) := ⟨fun h => ⟨p, _, rfl, o, rfl, h⟩⟩
instance {k : TGs} : Rd (gCons g k (v :: vs) σ H N) (g v σ H fun σ' H' => k vs σ' H' N) := ⟨fun h => ⟨v, vs, rfl, h⟩⟩
instance : Rd (gNil [] σ H N) (N σ H) := ⟨fun h => ⟨rfl, h⟩⟩
instance : Rd (tIsN ta σ H Q) (ta σ H fun x H1 => Q (.bl (decide (x = .non))) H1) := ⟨fun h => h⟩
instance : Rd (tFld K ta f σ H Q) (ta σ H (kFld K f Q)) := ⟨fun h => h⟩
instance [o : OB H p (.ins C dx fs)] [c : OwnI K C] [n : NoaI K C f] [l : LkI fs f v] : Rd (kFld K f Q (.ref p) H) (Q v H) := ⟨rd_kFld⟩
instance : Rd (sFld K ta tv f (Ends.mk a b c d) σ H) (tv σ H fun y H1 => ta σ H1 (kSF K f y (Ends.mk a b c d) σ)) := ⟨fun h => h⟩
instance : Rd (tMk C sp E tA σ H Q) (tA σ H (kMk C sp E Q)) := ⟨fun h => h⟩
instance : Rd (tMt C m sp E ta tA σ H Q) (ta σ H (kMt C m sp E tA σ Q)) := ⟨fun h => h⟩
instance : Rd (tLR3 tA σ H Q) (tA σ H (kLR3 Q)) := ⟨fun h => h⟩
instance {k : V → Option Int → Option Int → Hp → VK → Prop} {tl th : TO} : Rd (tSl k te tl th σ H Q) (te σ H fun x H1 => tl σ H1 fun l H2 => th σ H2 fun u H3 => k x l u H3 Q) := ⟨fun h => h⟩
instance : Rd (tNoPart σ H ROp) (ROp none H) := ⟨fun h => h⟩
instance : Rd (tPart te σ H ROp) (te σ H (kPart ROp)) := ⟨fun h => h⟩
instance {k : Int} : Rd (kPart ROp (.int k) H) (ROp (some k) H) := ⟨fun h => ⟨k, rfl, h⟩⟩
instance {wi : TI} : Rd (tFor wi g t (Ends.mk a b c d) σ H) (wi σ H (kFor g t (Ends.mk a b c d) σ)) := ⟨fun h => h⟩
instance {wi : TI} {tt : TT} {ws : List Nat} : Rd (tLc wi g tt te ws σ H Q) (wi σ H (kLc g tt te ws σ Q)) := ⟨fun h => h⟩
instance : Rd (iTup K te σ H RI) (te σ H (kItT K RI)) := ⟨fun h => h⟩
instance : Rd (iList K te σ H RI) (te σ H (kItL K RI)) := ⟨fun h => h⟩
instance [o : OB H p (.tup xs)] : Rd (kItT K RI (.ref p) H) (RI (Itt K p) H) := ⟨rd_kItT⟩
instance [o : OB H p (.lst xs)] : Rd (kItL K RI (.ref p) H) (RI (Itl K p) H) := ⟨rd_kItL⟩
instance (priority := 100) {ns : List Int} [o : IR K H p ns] : Rd (kItL K RI (.ref p) H) (RI (Itl K p) H) := ⟨rd_kItR⟩
instance : Rd (iRng1 tA σ H RI) (tA σ H (kR1 RI)) := ⟨fun h => h⟩
instance : Rd (iRng2 tA σ H RI) (tA σ H (kR2 RI)) := ⟨fun h => h⟩
instance : Rd (iRng3 tA σ H RI) (tA σ H (kR3 RI)) := ⟨fun h => h⟩
instance : Rd (iEnum K tA σ H RI) (tA σ H (kEn K RI)) := ⟨fun h => h⟩
instance : Rd (iZip K tA σ H RI) (tA σ H (kZi K RI)) := ⟨fun h => h⟩
instance [o : OB H p (.lst xs)] : Rd (kEn K RI [.ref p] H) (RI (Ite K p) H) := ⟨rd_kEn⟩
instance [o : OB H p (.lst xs)] [o' : OB H q (.lst ys)] : Rd (kZi K RI [.ref p, .ref q] H) (RI (Itz K p q) H) := ⟨rd_kZi⟩
instance : Rd (tYes σ H R) (R true H) := ⟨fun h => h⟩
instance {a b : Int} : Rd (rMax2B [.int a, .int b] H Q) (Q (.int (max a b)) H) := ⟨rd_max2⟩
instance {a b : Int} : Rd (rMin2B [.int a, .int b] H Q) (Q (.int (min a b)) H) := ⟨rd_min2⟩
instance {a : Int} : Rd (rAbsB [.int a] H Q) (Q (.int (a.natAbs : Int)) H) := ⟨rd_abs⟩
instance : Rd (if true = true then A else B) A := ⟨fun h => by rw [if_pos rfl]; exact h⟩
instance : Rd (if false = true then A else B) B := ⟨fun h => by rw [if_neg Bool.false_ne_true]; exact h⟩
instance : Rd (if (!true) = true then A else B) B := ⟨fun h => rd_nF rfl h⟩
instance : Rd (if (!false) = true then A else B) A := ⟨fun h => rd_nT rfl h⟩
instance [o : OB H p (.tup xs)] {k : Int} [at_ : AtI xs k v] : Rd (rIxTB (.ref p) (.int k) H Q) (Q v H) := ⟨rd_ixT at_.h⟩
instance : Rd (kLst Q [] H) (kNew Q (.lst []) H) := ⟨fun h => ⟨by simp, h⟩⟩
instance : Rd (kLst Q [x] H) (kNew Q (.lst [x]) H) := ⟨fun h => ⟨by simp, h⟩⟩
instance : Rd (kTup Q [x, y] H) (kNew Q (.tup [x, y]) H) := ⟨fun h => ⟨by simp, h⟩⟩
end
/-! ### more steps -/
def kSet (i : Nat) (σ : L2.St) (a : L2.St → Hp → Prop) : VK := fun z H2 => a (σ.set i (some z)) H2
section
variable {K : PySem.W.Frag} {σ σ' : L2.St} {H : Hp} {Q : VK} {te : TE} {x y v z : V} {i : Nat} {p q : Addr} {xs ys vs : List V} {a : L2.St → Hp → Prop} {b : VK} {c d : L2.St → Hp → Prop}
instance {ti : TIp} [s : SlotI σ i x] : Rd (tAug i te ti (Ends.mk a b c d) σ H) (te σ H fun y H1 => ti x y H1 (kSet i σ a)) := ⟨fun h => ⟨x, s.h, h⟩⟩
instance [s : SetI σ i (some z) σ'] : Rd (kSet i σ a z H) (a σ' H) := ⟨fun h => by
  show a (σ.set i (some z)) H
  rw [s.h]; exact h⟩
instance {k : Int → Int → Int} {m n : Int} : Rd (ipI k (.int m) (.int n) H Q) (Q (.int (k m n)) H) := ⟨fun h => ⟨m, n, rfl, rfl, h⟩⟩
instance {m n : Bool} : Rd (rIsB (.bl m) (.bl n) H Q) (Q (.bl (decide (m = n))) H) := ⟨fun h => ⟨m, n, rfl, rfl, h⟩⟩
instance {m n : Bool} : Rd (rNotB (.bl m) (.bl n) H Q) (Q (.bl (!decide (m = n))) H) := ⟨fun h => ⟨m, n, rfl, rfl, h⟩⟩
theorem inV_int (z : Int) : ∀ ns : List Int, inV (.int z) (ns.map V.int) = decide (z ∈ ns)
  | [] => rfl
  | n :: r => by
    have ih := inV_int z r
    unfold inV at ih ⊢
    rw [List.map_cons, List.any_cons, ih]
    show ((n == z) || decide (z ∈ r)) = decide (z ∈ n :: r)
    rw [Bool.eq_iff_iff, Bool.or_eq_true, beq_iff_eq, decide_eq_true_iff, decide_eq_true_iff, List.mem_cons]
    exact ⟨fun h => h.elim (fun e => .inl e.symm) .inr, fun h => h.elim (fun e => .inl e.symm) .inr⟩
theorem flat_ints : ∀ ns : List Int, (ns.map V.int).all flatV = true
  | [] => rfl
  | _ :: r => by rw [List.map_cons, List.all_cons, flat_ints r]; rfl
instance {z : Int} {ns : List Int} [o : OB H p (.tup xs)] [e : ILs xs ns] : Rd (rIn K false (.int z) (.ref p) H Q) (Q (.bl (decide (z ∈ ns))) H) := ⟨fun h => ⟨p, xs, rfl, .inr o.st, rfl, by rw [e.e]; exact flat_ints ns, by rw [e.e, inV_int]; exact h⟩⟩
instance {z : Int} {ns : List Int} [o : OB H p (.tup xs)] [e : ILs xs ns] : Rd (rIn K true (.int z) (.ref p) H Q) (Q (.bl (!decide (z ∈ ns))) H) := ⟨fun h => ⟨p, xs, rfl, .inr o.st, rfl, by rw [e.e]; exact flat_ints ns, by rw [e.e, inV_int]; exact h⟩⟩
instance (priority := 900) {z : Int} {ns : List Int} [o : OB H p (.lst xs)] [e : ILs xs ns] : Rd (rIn K false (.int z) (.ref p) H Q) (Q (.bl (decide (z ∈ ns))) H) := ⟨fun h => ⟨p, xs, rfl, .inl o.sq, rfl, by rw [e.e]; exact flat_ints ns, by rw [e.e, inV_int]; exact h⟩⟩
instance (priority := 900) {z : Int} {ns : List Int} [o : OB H p (.lst xs)] [e : ILs xs ns] : Rd (rIn K true (.int z) (.ref p) H Q) (Q (.bl (!decide (z ∈ ns))) H) := ⟨fun h => ⟨p, xs, rfl, .inl o.sq, rfl, by rw [e.e]; exact flat_ints ns, by rw [e.e, inV_int]; exact h⟩⟩
end
/-! ### data of some depth -/
section
variable {K : PySem.W.Frag} {H : Hp} {p q r : Addr} {xs ys : List V}
theorem lay_map {α : Type} (f : α → PyData) (hf : ∀ x, (f x).canLay0 = true) : ∀ l : List α, PyData.canLayAll0 (l.map f) = true
  | [] => by simp [PyData.canLayAll0]
  | n :: r => by rw [List.map_cons, PyData.canLayAll0, hf n, lay_map f hf r]; rfl
theorem dep_map {α : Type} (f : α → PyData) (n : Nat) (hf : ∀ x, (f x).depth ≤ n) : ∀ l : List α, PyData.depthAll (l.map f) ≤ n
  | [] => by simp [PyData.depthAll]
  | m :: r => by
    have := hf m
    have := dep_map f n hf r
    rw [List.map_cons, PyData.depthAll]
    omega
theorem eqv_map {α : Type} [DecidableEq α] (f : α → PyData) (hf : ∀ x y, PyData.eqv (f x) (f y) = decide (x = y)) : ∀ l m : List α, PyData.eqvAll (l.map f) (m.map f) = decide (l = m)
  | [], [] => by simp [PyData.eqvAll]
  | [], _ :: _ => by simp [PyData.eqvAll]
  | _ :: _, [] => by simp [PyData.eqvAll]
  | n :: r, m :: q => by
    rw [List.map_cons, List.map_cons, PyData.eqvAll, hf, eqv_map f hf r q, Bool.eq_iff_iff]
    simp
theorem sh_list {α : Type} (f : α → PyData) (n : Nat) (h1 : ∀ x, (f x).canLay0 = true) (h2 : ∀ x, (f x).depth ≤ n) (hn : n < 64) (l : List α) : SeqAt.shaped (.list (l.map f)) = true := by
  have := dep_map f n h2 l
  unfold SeqAt.shaped
  rw [PyData.canLay0, PyData.depth, lay_map f h1 l, Bool.true_and, decide_eq_true_iff]
  omega
def dI (ns : List Int) : PyData := .list (ns.map PyData.int)
def dP (x : Int × Int) : PyData := .tuple [.int x.1, .int x.2]
theorem dI_lay (ns : List Int) : (dI ns).canLay0 = true := by
  unfold dI
  rw [PyData.canLay0]
  exact lay_ints ns
theorem dI_dep (ns : List Int) : (dI ns).depth ≤ 1 := by
  unfold dI
  rw [PyData.depth, dep_ints ns]
  exact Nat.le_refl 1
theorem dP_lay (x : Int × Int) : (dP x).canLay0 = true := rfl
theorem dP_dep (x : Int × Int) : (dP x).depth ≤ 1 := Nat.le_refl 1
theorem dP_eqv (x y : Int × Int) : PyData.eqv (dP x) (dP y) = decide (x = y) := by
  obtain ⟨a, b⟩ := x
  obtain ⟨c, d⟩ := y
  unfold dP
  simp only [PyData.eqv, PyData.eqvAll, Bool.and_true]
  rw [Bool.eq_iff_iff]
  simp
theorem dI_eqv (ns ms : List Int) : PyData.eqv (dI ns) (dI ms) = decide (ns = ms) := eqv_lst ns ms
theorem fa_dp {α : Type} {R : V → α → Prop} {f : α → PyData} (hf : ∀ v x, R v x → Dp K H v (f x)) {l : List α} (h : Fa R xs l) : DpAll K H xs (l.map f) := by
  induction h with
  | nil => exact .nil
  | cons a _ ih => exact .cons (hf _ _ a) ih
instance dpLL {nss : List (List Int)} [o : OB H p (.lst xs)] [e : LLs H xs nss] : DP K H (.ref p) (.list (nss.map dI)) := ⟨.lst o.sq (fa_dp (fun v ns ⟨q, e, o⟩ => by rw [e]; exact .lst o.sq (dpInts ns)) e.h), sh_list dI 1 dI_lay dI_dep (by decide) nss⟩
instance {nss mss : List (List Int)} : EqD (.list (nss.map dI)) (.list (mss.map dI)) (decide (nss = mss)) := ⟨by
  show PyData.eqvAll _ _ = _
  exact eqv_map dI dI_eqv nss mss⟩
/-- a pair of ints stands at v -/
def PI2 (H : Hp) (v : V) (x : Int × Int) : Prop := ∃ q, v = .ref q ∧ OB H q (.tup [.int x.1, .int x.2])
class TPs (H : Hp) (xs : List V) (ps : outParam (List (Int × Int))) : Prop where h : Fa (PI2 H) xs ps
instance tpNil {H} : TPs H [] [] := ⟨.nil⟩
instance tpCons {H q xs m n ps} [o : OB H q (.tup [.int m, .int n])] [r : TPs H xs ps] : TPs H (.ref q :: xs) ((m, n) :: ps) := ⟨.cons ⟨q, rfl, o⟩ r.h⟩
instance (priority := 200) TPs.mono {H G : Hp} {xs : List V} {ps : List (Int × Int)} [a : SM H G] [b : TPs G xs ps] : TPs H xs ps := ⟨b.h.imp fun _ _ ⟨q, e, o⟩ => ⟨q, e, ⟨a.s _ _ o.h⟩⟩⟩
instance dpTP {ps : List (Int × Int)} [o : OB H p (.lst xs)] [e : TPs H xs ps] : DP K H (.ref p) (.list (ps.map dP)) := ⟨.lst o.sq (fa_dp (fun v x ⟨q, e, o⟩ => by rw [e]; exact .tup o.st (.cons (.int _) (.cons (.int _) .nil))) e.h), sh_list dP 1 dP_lay dP_dep (by decide) ps⟩
instance {ps qs : List (Int × Int)} : EqD (.list (ps.map dP)) (.list (qs.map dP)) (decide (ps = qs)) := ⟨by
  show PyData.eqvAll _ _ = _
  exact eqv_map dP dP_eqv ps qs⟩
instance dpT2L {ns ms : List Int} [o : OB H p (.tup [.ref q, .ref r])] [a : OB H q (.lst xs)] [e : ILs xs ns] [b : OB H r (.lst ys)] [f : ILs ys ms] : DP K H (.ref p) (.tuple [dI ns, dI ms]) :=
  ⟨.tup o.st (.cons (.lst a.sq (by rw [e.e]; exact dpInts ns)) (.cons (.lst b.sq (by rw [f.e]; exact dpInts ms)) .nil)), by
    have h1 := dI_dep ns
    have h2 := dI_dep ms
    unfold SeqAt.shaped
    rw [PyData.canLay0, PyData.canLayAll0, PyData.canLayAll0, PyData.canLayAll0, dI_lay, dI_lay, PyData.depth, PyData.depthAll, PyData.depthAll, PyData.depthAll, Bool.true_and, Bool.true_and, Bool.true_and, decide_eq_true_iff]
    omega⟩
instance {ns ms us vs : List Int} : EqD (.tuple [dI ns, dI ms]) (.tuple [dI us, dI vs]) (decide (ns = us ∧ ms = vs)) := ⟨by
  simp only [PyData.eqv, PyData.eqvAll, Bool.and_true, dI_eqv]
  rw [Bool.eq_iff_iff]
  simp⟩
theorem dpBools : ∀ bs : List Bool, DpAll K H (bs.map V.bl) (bs.map PyData.bool)
  | [] => .nil
  | b :: r => .cons (.bl b) (dpBools r)
instance dpBLs {bs : List Bool} [o : OB H p (.lst xs)] [e : BLs xs bs] : DP K H (.ref p) (.list (bs.map PyData.bool)) := ⟨.lst o.sq (by rw [e.e]; exact dpBools bs), sh_list PyData.bool 0 (fun _ => by rw [PyData.canLay0]) (fun _ => by rw [PyData.depth]; exact Nat.le_refl 0) (by decide) bs⟩
instance {bs cs : List Bool} : EqD (.list (bs.map PyData.bool)) (.list (cs.map PyData.bool)) (decide (bs = cs)) := ⟨by
  show PyData.eqvAll _ _ = _
  exact eqv_map PyData.bool (fun x y => by rw [PyData.eqv]; cases x <;> cases y <;> rfl) bs cs⟩
end
/-! ### stores into lists, counts, greatest ones -/
section
variable {X : Cx} {K : PySem.W.Frag} {σ : L2.St} {H : Hp} {Q : VK} {x y v : V} {p : Addr} {xs : List V} {ns : List Int} {ta tb : TE} {N : L2.St → Hp → Prop}
def rCntB : V → List V → Hp → VK → Prop := fun x vs H Q => ∃ (p : Addr) (bs : List Bool) (k : Bool), x = .ref p ∧ vs = [.bl k] ∧ OB H p (.lst (bs.map V.bl)) ∧ Q (.int ((bs.count k : Nat) : Int)) H
def eqkb (k : Bool) (v : Value) : Bool := match v with
  | .bool n => n == k
  | _ => false
theorem eqkb_at {k : Bool} {A : Around} {s : Shared} : ∀ {bs : List Bool} {us : List Value}, Vals (bs.map V.bl) us → ∀ y ∈ us, SeqAt.EqAt A s y (.bool k) (eqkb k y)
  | [], _, h => fun y hy => by cases h; cases hy
  | b :: bs, _, h => fun y hy => by
    cases h with
    | cons a r =>
      rcases List.mem_cons.mp hy with e | e
      · rw [e, show _ = Value.bool b from a]
        exact SeqAt.EqAt.bool_bool b k
      · exact eqkb_at r y e
theorem eqkb_count {k : Bool} : ∀ {bs : List Bool} {us : List Value}, Vals (bs.map V.bl) us → us.countP (eqkb k) = bs.count k
  | [], _, h => by cases h; rfl
  | b :: bs, _, h => by
    cases h with
    | cons a r =>
      rw [List.countP_cons, List.count_cons, eqkb_count r, show _ = Value.bool b from a]
      rfl
theorem mt_cntB : MtR X "list.count" rCntB := by
  intro pins s σ H x xs v us Q I rx rxs h
  obtain ⟨p, bs, k, rfl, rfl, hs, q⟩ := h
  cases rx
  obtain ⟨u, rfl, ru⟩ := rxs.one
  cases (show u = Value.bool k from ru)
  obtain ⟨its, rv, ⟨⟨cls, dd, data, sl⟩, n, ho, hc, hdn, hd⟩, hlen⟩ := I.list (OB.sq (K := X.K) hs)
  simp only at hc hd
  subst hc hd
  refine call_meets PySem.F.slot_list_count ⟨_, ho, rfl⟩ PySem.F.entry_list_count (PySem.F.args_list_count_2 _ _)
    (SeqAt.list_countAt p its.toArray n dd sl (.bool k) (eqkb k)) ⟨ho, fun y hy => eqkb_at rv y (by simpa using hy), ?_⟩
  have ec : its.toArray.toList.countP (eqkb k) = bs.count k := eqkb_count rv
  refine ⟨.int (bs.count k : Nat), H, I.tok _, ⟨s.toks, ?_⟩, q⟩
  show Value.int ((its.toArray.toList.countP (eqkb k) : Nat) : Int) s.toks = Value.int ((bs.count k : Nat) : Int) s.toks
  rw [ec]
instance {bs : List Bool} {k : Bool} [o : OB H p (.lst xs)] [e : BLs xs bs] : Rd (rCntB (.ref p) [.bl k] H Q) (Q (.int ((bs.count k : Nat) : Int)) H) := ⟨fun h => ⟨p, bs, k, rfl, rfl, by rw [← e.e]; exact o, h⟩⟩
def rMaxLB : List V → Hp → VK → Prop := fun vs H Q => ∃ (a : Addr) (ns : List Int), vs = [V.ref a] ∧ OB H a (.lst (ns.map V.int)) ∧ 0 < ns.length ∧ ∀ m, m ∈ ns → (∀ y, y ∈ ns → y ≤ m) → Q (.int m) H
theorem cr_maxLB (hc : X.calm = true) : CallR X (.builtin "max") rMaxLB := cr_weak (cr_max hc) fun vs H Q ⟨p, ns, e, o, n, q⟩ => ⟨p, ns, e, o.sq, n, q⟩
theorem rd_maxL [o : OB H p (.lst xs)] [e : ILs xs ns] (n : 0 < ns.length) (q : ∀ m, m ∈ ns → (∀ y, y ∈ ns → y ≤ m) → Q (.int m) H) : rMaxLB [.ref p] H Q := ⟨p, ns, rfl, ob_ints e o, n, q⟩
def rSetB : V → V → V → Hp → (Hp → Prop) → Prop := fun o i v H Q => ∃ p xs k j, o = .ref p ∧ i = .int k ∧ OB H p (.lst xs) ∧ ixN xs.length k = some j ∧ ∀ H', MU H' H p → OB H' p (.lst (xs.set j v)) → Q H'
theorem set_listB : PSet X rSetB := fun pins s σ H o i v ov iv u Q I ro ri rv ⟨p, xs, k, j, e1, e2, ob, h, q⟩ => set_list pins s σ H o i v ov iv u Q I ro ri rv ⟨p, xs, k, j, e1, e2, ob.h, h, q _ MU.new OB.new⟩
theorem rd_setL {k : Int} {j : Nat} {R : Hp → Prop} [o : OB H p (.lst xs)] (h : ixN xs.length k = some j) (q : ∀ H', MU H' H p → OB H' p (.lst (xs.set j v)) → R H') : rSetB (.ref p) (.int k) v H R := ⟨p, xs, k, j, rfl, rfl, o, h, q⟩
instance {t : V → V → V → Hp → (Hp → Prop) → Prop} : Rd (gSub ta tb t v σ H N) (ta σ H fun o H1 => tb σ H1 fun i H2 => t o i v H2 fun H3 => N σ H3) := ⟨fun h => h⟩
instance ilSet {z : Int} {j : Nat} [e : ILs xs ns] : ILs (xs.set j (.int z)) (ns.set j z) := ⟨by rw [e.e, List.map_set]⟩
end
theorem frmu0 {H G : Hp} {p q : Addr} {o : HO} (f : FR0 H q) (m : MU H G p) (x : OB H p o) : FR0 G q := ⟨by
  cases e : G q with
  | none => rfl
  | some u =>
    by_cases z : q = p
    · subst z
      have := x.h
      rw [f.h] at this
      cases this
    · have := m.s q u z e
      rw [f.h] at this
      cases this⟩
theorem op_inB {X : Cx} {K : PySem.W.Frag} (hK : X.K = K) : OpR X (compareOp .In) (rIn K false) := by
  subst hK
  exact op_in_seq
theorem op_notInB {X : Cx} {K : PySem.W.Frag} (hK : X.K = K) : OpR X (compareOp .NotIn) (rIn K true) := by
  subst hK
  exact op_notIn_seq
instance {a b : Int} : EqD (.int a) (.int b) (decide (a = b)) := ⟨by
  rw [PyData.eqv, Bool.eq_iff_iff]
  simp⟩
instance {a b : Bool} : EqD (.bool a) (.bool b) (decide (a = b)) := ⟨by
  rw [PyData.eqv, Bool.eq_iff_iff]
  simp⟩
/-- a list of ints stands at v, not at p -/
def LIn (p : Addr) (H : Hp) (v : V) (ns : List Int) : Prop := ∃ q, v = .ref q ∧ NE q p ∧ OB H q (.lst (ns.map V.int))
theorem LIn.mut {H G : Hp} {v : V} {ns : List Int} {p : Addr} (m : MU H G p) (h : LIn p G v ns) : LIn p H v ns := by
  obtain ⟨q, e, n, o⟩ := h
  exact ⟨q, e, n, ⟨m.s _ _ n.h o.h⟩⟩
theorem LIn.mono {H G : Hp} {v : V} {ns : List Int} {p : Addr} (m : SX H G) (h : LIn p G v ns) : LIn p H v ns := by
  obtain ⟨q, e, n, o⟩ := h
  exact ⟨q, e, n, ⟨m.s _ _ o.h⟩⟩
theorem LIn.li {H : Hp} {v : V} {ns : List Int} {p : Addr} (h : LIn p H v ns) : LI H v ns := by
  obtain ⟨q, e, n, o⟩ := h
  exact ⟨q, e, o⟩
theorem Fa.map2 {α β γ : Type} {R : α → γ → Prop} {f : β → γ} {xs : List α} {ys : List β} (h : Fa (fun x y => R x (f y)) xs ys) : Fa R xs (ys.map f) := by
  induction h with
  | nil => exact .nil
  | cons a _ ih => exact .cons a ih
theorem rd_ixTx {H : Hp} {Q : VK} {p : Addr} {xs : List V} (P : V → Prop) {z : Int} [o : OB H p (.tup xs)] (h : ∃ v, atI xs z = some v ∧ P v) (q : ∀ v, P v → Q v H) : rIxTB (.ref p) (.int z) H Q := by
  obtain ⟨v, h1, h2⟩ := h
  exact rd_ixT h1 (q v h2)
theorem rd_ifC {c : Prop} [Decidable c] {m n : Int} {σ : L2.St} {H : Hp} {Q : VK} (h : Q (.int (if c then m else n)) H) : if decide c = true then tC (.int m) σ H Q else tC (.int n) σ H Q := by
  by_cases z : c
  · rw [if_pos z] at h
    exact rd_T (decide_eq_true z) h
  · rw [if_neg z] at h
    exact rd_F (decide_eq_false z) h
/-! ### methods of objects -/
class NLk (fs : List (Str × V)) (m : Str) : Prop where h : fs.lookup m = none
instance : NeS "shows" "row" := ⟨by decide +kernel⟩
instance : NeS "shows" "carries" := ⟨by decide +kernel⟩
instance : NeS "shows" "number" := ⟨by decide +kernel⟩
instance : NeS "shows" "place" := ⟨by decide +kernel⟩
instance : NeS "shows" "left" := ⟨by decide +kernel⟩
instance {m : Str} : NLk [] m := ⟨rfl⟩
instance {m g : Str} {w : V} {r : List (Str × V)} [n : NeS m g] [k : NLk r m] : NLk ((g, w) :: r) m := ⟨by rw [List.lookup_cons, n.h]; exact k.h⟩
section
variable {X : Cx} {K : PySem.W.Frag} {σ : L2.St} {H : Hp} {Q : VK} {a C D dx : Addr} {fs : List (Str × V)} {m : Str} {sp sp2 : Sp} {E : XK} {t : TA} {e : Expr} {i : Nat} {v : V}
instance [o : OB H a (.ins C dx fs)] [n : NLk fs m] : Rd (kMt C m sp E t σ Q (.ref a) H) (t σ H fun vs H2 => sp (.ref a :: vs) H2 Q E) := ⟨fun h => rd_kMt n.h h⟩
def kMt2 (C D : Addr) (m : Str) (sp sp2 : Sp) (E : XK) (t : TA) (σ : L2.St) (Q : VK) : VK := fun v H => kMt C m sp E t σ Q v H ∨ kMt D m sp2 E t σ Q v H
def tMt2 (C D : Addr) (m : Str) (sp sp2 : Sp) (E : XK) (i : Nat) (t : TA) : TE := fun σ H Q => ∃ v, σ[i]? = some (some v) ∧ kMt2 C D m sp sp2 E t σ Q v H
theorem mt_of2 (h1 : PE X e (tMt C m sp E (tVar i) t)) (h2 : PE X e (tMt D m sp2 E (tVar i) t)) : PE X e (tMt2 C D m sp sp2 E i t) := ⟨fun pins s σ H Q I h => by
  obtain ⟨v, e, h⟩ := h
  rcases h with h | h
  · exact h1.run pins s σ H Q I ⟨v, e, h⟩
  · exact h2.run pins s σ H Q I ⟨v, e, h⟩⟩
instance [s : SlotI σ i v] : Rd (tMt2 C D m sp sp2 E i t σ H Q) (kMt2 C D m sp sp2 E t σ Q v H) := ⟨fun h => ⟨v, s.h, h⟩⟩
instance [o : OB H a (.ins C dx fs)] [n : NLk fs m] : Rd (kMt2 C D m sp sp2 E t σ Q (.ref a) H) (t σ H fun vs H2 => sp (.ref a :: vs) H2 Q E) := ⟨fun h => .inl (rd_kMt n.h h)⟩
instance (priority := 900) [o : OB H a (.ins D dx fs)] [n : NLk fs m] : Rd (kMt2 C D m sp sp2 E t σ Q (.ref a) H) (t σ H fun vs H2 => sp2 (.ref a :: vs) H2 Q E) := ⟨fun h => .inr (rd_kMt n.h h)⟩
theorem at_last {ns : List Int} (h : 0 < ns.length) : atI (ns.map V.int) (-1) = some (.int (ns.getLast?.getD 0)) := by
  have hne : ns ≠ [] := fun e => by rw [e] at h; cases h
  have e : ns = ns.dropLast ++ [ns.getLast hne] := (List.dropLast_concat_getLast hne).symm
  have e2 : ns.getLast?.getD 0 = ns.getLast hne := by rw [List.getLast?_eq_some_getLast hne]; rfl
  rw [e2]
  generalize ns.getLast hne = u at e
  generalize ns.dropLast = r at e
  subst e
  rw [List.map_append]
  simp only [atI, ixN, List.map_cons, List.map_nil, List.length_append, List.length_cons, List.length_nil]
  rw [if_neg (by decide), if_pos (by omega)]
  simp only [Option.bind_some]
  rw [List.getElem?_append_right (by omega)]
  have e : ((-1 : Int) + (((r.map V.int).length + (0 + 1) : Nat) : Int)).toNat - (r.map V.int).length = 0 := by omega
  rw [e]
  rfl
theorem rd_ixLL {p : Addr} {xs : List V} {ns : List Int} [o : OB H p (.lst xs)] [e : ILs xs ns] (h : 0 < ns.length) (q : Q (.int (ns.getLast?.getD 0)) H) : rIxLB (.ref p) (.int (-1)) H Q := rd_ixL (by rw [e.e]; exact at_last h) q
end
theorem rd_setE {H : Hp} {p : Addr} {r : List Int} {y z : Int} {R : Hp → Prop} [o : OB H p (.lst ((r ++ [y]).map V.int))] (q : ∀ H', MU H' H p → OB H' p (.lst ((r ++ [z]).map V.int)) → R H') : rSetB (.ref p) (.int (-1)) (.int z) H R := by
  refine rd_setL (j := r.length) ?_ fun H' m o => q H' m ?_
  · rw [List.length_map, List.length_append]
    simp only [ixN, List.length_cons, List.length_nil]
    rw [if_neg (by decide), if_pos (by omega)]
    congr 1
    omega
  · have e : ((r ++ [y]).map V.int).set r.length (.int z) = (r ++ [z]).map V.int := by
      rw [List.map_append, List.map_append, List.set_append_right _ _ (by rw [List.length_map]; exact Nat.le_refl _), List.length_map, Nat.sub_self]
      rfl
    rw [← e]
    exact o
theorem dec_swap {A B : Prop} [Decidable A] [Decidable B] (h : A ↔ B) : decide (decide A = decide B) = true := decide_eq_true (by rw [Bool.eq_iff_iff, decide_eq_true_iff, decide_eq_true_iff]; exact h)
theorem rd_popI {H : Hp} {Q : VK} {p : Addr} {xs : List V} {ns : List Int} [o : OB H p (.lst xs)] [e : ILs xs ns] (h : 0 < ns.length) (k : ∀ v H', MU H' H p → OB H' p (.lst (ns.dropLast.map V.int)) → Q v H') : rPopB (.ref p) [] H Q := by
  have ee := e.e
  subst ee
  refine rd_pop (v := .int (ns[ns.length - 1]'(by omega))) ?_ fun H' m o => k _ H' m (by rw [List.map_dropLast]; exact o)
  rw [List.length_map, List.getElem?_map, List.getElem?_eq_getElem (by omega)]
  rfl
theorem rd_mt2 {C D : Addr} {m : Str} {sp sp2 : Sp} {E : XK} {i : Nat} {t : TA} {σ : L2.St} {H : Hp} {Q : VK} {v : V} (h : σ[i]? = some (some v)) (q : kMt2 C D m sp sp2 E t σ Q v H) : tMt2 C D m sp sp2 E i t σ H Q := ⟨v, h, q⟩
/-! ### str of a list of ints; defs that want to know that no repr is under way -/
theorem showable_ints : ∀ ns : List Int, (∀ n ∈ ns, n.natAbs < 2 ^ 1900) → PyData.showableAll (ns.map PyData.int) = true
  | [], _ => by rw [List.map_nil, PyData.showableAll]
  | n :: r, h => by
    have h1 := h n (by simp)
    rw [List.map_cons, PyData.showableAll, PyData.showable, showable_ints r fun m hm => h m (by simp [hm]), Bool.and_true, decide_eq_true_iff]
    rcases Nat.eq_zero_or_pos n.natAbs with z | z
    · rw [z]; decide
    · have := (Nat.log2_lt (by omega)).mpr h1
      omega
theorem nodict_ints : ∀ ns : List Int, PyData.hasDictAll (ns.map PyData.int) = false
  | [] => by rw [List.map_nil, PyData.hasDictAll]
  | n :: r => by rw [List.map_cons, PyData.hasDictAll, PyData.hasDict, nodict_ints r]; rfl
theorem shownAll_ints : ∀ ns : List Int, PyData.shownAll (ns.map PyData.int) = ns.map fun n => PyData.shown (.int n)
  | [] => by rw [List.map_nil, PyData.shownAll]; rfl
  | n :: r => by rw [List.map_cons, PyData.shownAll, shownAll_ints r]; rfl
theorem textFrom_le : ∀ (ts : List Str) (k : Nat) (acc : Str) (B : Nat), (∀ t ∈ ts, t.length ≤ B) → (textFrom k acc ts).length ≤ acc.length + ts.length * (B + 2)
  | [], k, acc, B, _ => by show acc.length ≤ _; omega
  | t :: r, k, acc, B, h => by
    have ih := textFrom_le r (k + 1) (acc ++ (if k > 0 then ", " else "" : String) ++ t) B fun u hu => h u (by simp [hu])
    have h1 := h t (by simp)
    have e : (acc ++ (if k > 0 then ", " else "" : String) ++ t).length = acc.length + (if k > 0 then 2 else 0) + t.length := by
      rw [strLen_append, strLen_append]
      congr 2
      split <;> rfl
    have e2 : (if k > 0 then 2 else 0 : Nat) ≤ 2 := by split <;> omega
    show (textFrom (k + 1) (acc ++ (if k > 0 then ", " else "" : String) ++ t) r).length ≤ _
    rw [List.length_cons, Nat.add_mul, Nat.one_mul]
    omega
theorem shown_fits (ns : List Int) (hl : ns.length ≤ 1000) (h : ∀ n ∈ ns, n.natAbs < 2 ^ 1900) : (PyData.shown (dI ns)).length ≤ sizeLine := by
  unfold dI
  rw [PyData.shown, shownAll_ints]
  show (textFrom 0 "[" (ns.map fun n => PyData.shown (.int n)) ++ ("]" : String) : Str).length ≤ _
  have l := textFrom_le (ns.map fun n => PyData.shown (.int n)) 0 "[" 1921 (fun t ht => by
    obtain ⟨n, hn, e⟩ := List.mem_map.mp ht
    rw [← e, PyData.shown]
    refine PyProof.Rows.int_text_len_1921 ?_
    have h1 := h n hn
    rcases Nat.eq_zero_or_pos n.natAbs with z | z
    · rw [z]; decide
    · have := (Nat.log2_lt (by omega)).mpr h1
      omega)
  rw [List.length_map] at l
  rw [strLen_append]
  have e1 : (("[" : String) : Str).length = 1 := rfl
  have e2 : (("]" : String) : Str).length = 1 := rfl
  rw [sizeLine_eq]
  omega
def rStrL : List V → Hp → VK → Prop := fun vs H Q => ∃ p ns, vs = [.ref p] ∧ OB H p (.lst (ns.map V.int)) ∧ ns.length ≤ 1000 ∧ (∀ n ∈ ns, n.natAbs < 2 ^ 1900) ∧ Q (.str (PyData.shown (dI ns))) H
theorem cr_strL {X : Cx} (hg : X.A.guards = some []) (hu : X.A.units + 64 < cLine) : CallR X (.type "str") rStrL := by
  intro pins s σ H xs us Q I r h
  obtain ⟨p, ns, rfl, o, hl, hb, q⟩ := h
  obtain ⟨u, rfl, ru⟩ := vals1 r
  cases ru
  obtain ⟨as, rd⟩ := Dp.reads I (dI ns) _ _ (.lst o.sq (dpInts ns)) rfl
  have hd : (dI ns).depth ≤ 1 := dI_dep ns
  refine PySem.str_of_reads rd (by unfold dI; rw [PyData.showable]; exact showable_ints ns hb) (fun z => ?_) hg (by omega) (fun _ _ e => e) (fun h' u tk hk => ⟨.str _, H, I.kept (t' := tk) hk, ⟨_, rfl⟩, q⟩) (shown_fits ns hl hb)
  unfold dI at z
  rw [PyData.hasDict, nodict_ints] at z
  cases z
theorem rd_strL {H : Hp} {Q : VK} {p : Addr} {xs : List V} {ns : List Int} [o : OB H p (.lst xs)] [e : ILs xs ns] (hl : ns.length ≤ 1000) (hb : ∀ n ∈ ns, n.natAbs < 2 ^ 1900) (q : Q (.str (PyData.shown (dI ns))) H) : rStrL [.ref p] H Q := ⟨p, ns, rfl, ob_ints e o, hl, hb, q⟩
theorem str_two {n k : Int} (h : n.natAbs < 2 ^ 1900) (h2 : k.natAbs < 2 ^ 1900) : ∀ m ∈ [n, k], m.natAbs < 2 ^ 1900 := fun m hm => by
  rcases List.mem_cons.mp hm with rfl | z
  · exact h
  · rw [List.mem_singleton.mp z]; exact h2
theorem str_one {n : Int} (h : n.natAbs < 2 ^ 1900) : ∀ m ∈ [n], m.natAbs < 2 ^ 1900 := fun m hm => by rw [List.mem_singleton.mp hm]; exact h
instance {H : Hp} {Q : VK} {a b : Str} : Rd (rEq (.str a) (.str b) H Q) (Q (.bl (decide (a = b))) H) := ⟨fun q => by
  refine ⟨rfl, ?_⟩
  have e : decide (V.str a = V.str b) = decide (a = b) := by simp
  rw [e]; exact q⟩
instance {H : Hp} {Q : VK} {a b : Str} : Rd (rNe (.str a) (.str b) H Q) (Q (.bl (decide (a ≠ b))) H) := ⟨fun q => by
  refine ⟨rfl, ?_⟩
  have e : (!decide (V.str a = V.str b)) = decide (a ≠ b) := by simp
  rw [e]; exact q⟩
structure FnOkG (P : Program) (w : World) (K : PySem.W.Frag) (mg : Str → Option Value) (base : Heap) (CX : CXT) (k : Nat) (f : Addr) (fd : FuncData) (ps : List Str) (sp : Sp) : Prop where
  len : ∀ vs H Q E, sp vs H Q E → vs.length = ps.length
  run : ∀ (A : Around) (outer : List Env) (s : Shared) (H : Hp) (args : Args) (us : List Value) (vs : List V) (Q : VK) (E : XK), Room k A → A.guards = some [] → Env0 P w K mg base A outer s H → BindsTo s fd args (ps.zip us) → Vals vs us → sp vs H Q E →
    codeAny (model P w) A (.call (.ref f) args) (CR CX outer P w H s Q E) s
theorem FnOk.toG {P : Program} {w : World} {K : PySem.W.Frag} {mg : Str → Option Value} {base : Heap} {CX : CXT} {k : Nat} {f : Addr} {fd : FuncData} {ps : List Str} {sp : Sp} (F : FnOk P w K mg base CX k f fd ps sp) : FnOkG P w K mg base CX k f fd ps sp :=
  ⟨F.len, fun A outer s H args us vs Q E hr _ he hb hv hs => F.run A outer s H args us vs Q E hr he hb hv hs⟩
theorem fn_ofG {CX : CXT} {P : Program} {w : World} {K : PySem.W.Frag} {mg : Str → Option Value} {base : Heap} {k : Nat} {f : Addr} {name qual : Str} {params : Arguments} {body : List Stmt} {scope : Scope} {dV kV doc pm cdv ct oc : Value} {an od : Option Addr}
    {osl : Array (Option Value)} {N ps : List Str} {sp : Sp} (lk : K.lookup f = some ⟨oc, od, .func (PySem.W.fnOf name qual params body scope dV kV doc pm an cdv ct), osl⟩) (hcd : PySem.W.codeIn K cdv qual = true) (S : FnScope N ps scope)
    (len : ∀ vs H Q E, sp vs H Q E → vs.length = ps.length)
    (hbody : ∀ (A : Around) (outer : List Env) (s : Shared) (H : Hp) (vs : List V) (Q : VK) (E : XK), Room k (A.deeper (PyProof.Rows.envOfC qual scope s.heap.objs.size f cdv)) → (A.deeper (PyProof.Rows.envOfC qual scope s.heap.objs.size f cdv)).guards = some [] → sp vs H Q E →
      ∃ t, PSs (cxOf CX P w K mg base N qual scope f cdv A outer s H E) body t ∧ t { nx := fun _ H' => Q .non H', rt := Q } (start N vs) H) :
    FnOkG P w K mg base CX (k + 1) f (PySem.W.fnOf name qual params body scope dV kV doc pm an cdv ct) ps sp := by
  refine ⟨len, fun A out s H ar us vs Q E rm gd en bi rv hsp => ?_⟩
  have hlen := len _ _ _ _ hsp
  have kin : K.In s.heap := en.mod.kin.keeps fun z y q => (en.bs z y q).1
  have nol : s.heap.NoLimit := en.mod.nolimit.keeps fun z y q => (en.bs z y q).1
  have hk : ∀ y ∈ ps.zip us, scope.names.lookup y.1 = some .local ∨ (scope.names.lookup y.1 = some .cell ∧ ((cellsFrom (s.heap.objs.size + 1) scope.names []).lookup y.1).isSome = true) := by
    rintro ⟨nm, va⟩ hy
    exact (S.par nm (List.of_mem_zip hy).1).elim .inl fun q => .inr ⟨q, PySem.W.cellsFrom_some _ _ _ (.inl q)⟩
  refine codeAny_call_function rm.depth (kin _ _ lk) rfl S.co S.gen rfl (PySem.W.codeRec_of kin hcd) (bi _ _ _ _ ?_)
  refine wpAny_newFunctionEnv_cells S.kind hk fun ev hev s2 x => ?_
  subst hev
  refine ⟨nol.keeps x.toInCall.keep, codeAny_func ?_⟩
  obtain ⟨t, pt, pq⟩ := hbody A out s H vs Q E (rm.deeper _) gd hsp
  have J := inv_start (CX := CX) (E := E) S rm.hd en hlen rv x
  refine wpAny_mono (pt.run [] s2 (L2.start N vs) H _ J pq) (fun fl s3 hs => ?_) fun _ _ hs => hs
  cases fl with
  | brk => obtain ⟨_, _, _, q⟩ := hs; exact q.elim
  | cont => obtain ⟨_, _, _, q⟩ := hs; exact q.elim
  | ret u =>
    obtain ⟨v, σ', H', J', r', q⟩ := hs
    exact ⟨v, H', J'.os, J'.bare, J'.base, J'.hok, r', q⟩
  | next =>
    obtain ⟨σ', H', J', q⟩ := hs
    exact ⟨V.non, H', J'.os, J'.bare, J'.base, J'.hok, rfl, q⟩
theorem okGf {P : Program} {w : World} {K : PySem.W.Frag} {mg : Str → Option Value} {base : Heap} {x q : Str} {st : Stmt} {f : Addr} {fd : FuncData} {N ps : List Str} {k : Nat} {sp : Sp} (F : Fun K x q st f fd) (S : FnScope N ps (defScope st)) (len : ∀ vs H Q E, sp vs H Q E → vs.length = ps.length)
    (hbody : ∀ (cdv : Value) (A : Around) (out : List Env) (s : Shared) (H : Hp) (vs : List V) (Q : VK) (E : XK), Room k (A.deeper (PyProof.Rows.envOfC q (defScope st) s.heap.objs.size f cdv)) → (A.deeper (PyProof.Rows.envOfC q (defScope st) s.heap.objs.size f cdv)).guards = some [] → sp vs H Q E →
      ∃ t, PSs (cxOf CX0 P w K mg base N q (defScope st) f cdv A out s H E).nox (defBody st) t ∧ t { nx := fun _ H' => Q .non H', rt := Q } (start N vs) H) : FnOkG P w K mg base CX0 (k + 1) f fd ps sp := by
  obtain ⟨_, _, _, _, _, _, cdv, _, _, e, lk, hc⟩ := F.ex
  subst e
  exact fn_ofG lk hc S len fun A out s H vs Q E rm gd h => by
    obtain ⟨t, p, q⟩ := hbody cdv A out s H vs Q E rm gd h
    exact ⟨t, p.nox, q⟩
structure FnG (P : Program) (w : World) (K : PySem.W.Frag) (mg : Str → Option Value) (base : Heap) (x : Str) (ps : List Str) (k : Nat) (sp : Sp) : Prop where
  ex : ∃ f fd, mg x = some (.ref f) ∧ FnOkG P w K mg base CX0 k f fd ps sp ∧ Binds K fd ps [] ∧ PySem.W.keepIn K (.ref f) = true
theorem Fn0.okG {P : Program} {w : World} {K : PySem.W.Frag} {mg : Str → Option Value} {base : Heap} {x : Str} {ps : List Str} {st : Stmt} {N : List Str} {k : Nat} {sp : Sp} (F : Fn0 K mg x ps st) (S : FnScope N ps (defScope st)) (len : ∀ vs H Q E, sp vs H Q E → vs.length = ps.length)
    (hbody : ∀ (f : Addr) (cdv : Value) (A : Around) (outer : List Env) (s : Shared) (H : Hp) (vs : List V) (Q : VK) (E : XK), Room k (A.deeper (PyProof.Rows.envOfC x (defScope st) s.heap.objs.size f cdv)) → (A.deeper (PyProof.Rows.envOfC x (defScope st) s.heap.objs.size f cdv)).guards = some [] → sp vs H Q E →
      ∃ t, PSs (cxOf CX0 P w K mg base N x (defScope st) f cdv A outer s H E).nox (defBody st) t ∧ t { nx := fun _ H' => Q .non H', rt := Q } (start N vs) H) : FnG P w K mg base x ps (k + 1) sp := by
  obtain ⟨f, fd, hm, F, b⟩ := F.ex
  exact ⟨f, fd, hm, okGf F S len (hbody f), b, F.kp⟩
theorem run_fnG {X : Cx} {CX : CXT} {k : Nat} {f : Addr} {fd : FuncData} {ps : List Str} {sp : Sp} {E : XK} {pins : List (Addr × Obj)} {σ : L2.St} {H : Hp} {s : Shared} {Q : VK} {us : List Value} {vs : List V} (F : FnOkG X.prog X.w X.K X.mg X.base CX k f fd ps sp) (hr : Room k X.A) (gd : X.A.guards = some []) (hb : Binds X.K fd ps []) (hx : Passes CX X E)
    (J : Inv X pins σ H s) (r : Vals vs us) (h : sp vs H Q E) : wpAny (model X.prog X.w) X.A (call (.ref f) us) (EP X pins σ Q) X.xe s := by
  have hl : us.length = ps.length := by rw [← r.length]; exact F.len _ _ _ _ h
  have bb := hb s us J.kIn (by rw [List.append_nil]; exact hl)
  rw [List.append_nil] at bb
  refine wpAny_call (codeAny_mono (F.run X.A X.stack s H ⟨us, []⟩ us vs Q E hr gd J.env0 bb r h) fun rr s2 hq => ?_)
  cases rr with
  | error e => exact hx pins σ H s e s2 J hq
  | ok fl =>
    cases fl with
    | ret u => exact J.after hq
    | next => exact hq.elim
    | brk => exact hq.elim
    | cont => exact hq.elim
theorem pe_fnG {X : Cx} {x : Str} {ps : List Str} {j k : Nat} {sp : Sp} {e : Expr} {es : List Expr} {t : TA} {p pos : Pos} (F : FnG X.prog X.w X.K X.mg X.base x ps j sp) (hr : Room k X.A) (gd : X.A.guards = some []) (hg : Gl X x) (ha : PA X (e :: es) t) (hl : j ≤ k := by decide) (hdb : (x == ("__debug__" : Str)) = false := by decide)
    (he : starEach (e :: es) X.env = (false, eval e X.env) :: starEach es X.env := by rfl) (hpl : (backTo pos (starEach es X.env)).any (·.1) = false := by rfl) : PE X (.Call (.Name x p) (e :: es) [] pos) (tFn sp E0 t) := by
  obtain ⟨f, fd, hm, G, b, kp⟩ := F.ex
  refine ⟨fun pins s σ H Q J h => wpAny_Call_Name_kw (ld_glob J hg hm ?_ hdb)⟩
  refine PySem.W.callWith_K (h₀ := X.base) J.ok.mod.kin kp (thn (ha.run pos pins s σ H _ J h) fun us s1 ⟨vs, H1, J1, r, q⟩ => ⟨J1.kIn, ?_⟩) he hpl
  exact run_fnG G (hr.mono hl) gd b pass0 J1 r q
/-! ### the end, for a law that wants to know of the guards -/
section
variable {P : Program} {w : World} {K : PySem.W.Frag} {mg mb : Str → Option Value} {k : Nat} {fa a : Addr} {fd : FuncData} {x : Str} {sp : Sp} {t : Shared} {vs : List Value} {ns : List Int}
abbrev scr (vs : List Value) : Obj := { cls := .type "list", data := .seq vs.toArray }
abbrev EndG (s : Shared) : Result → Shared → Prop := fun r s2 => r = .ok (.ret (.bool true)) ∧ OldK s.heap s2.heap ∧ s2.os = s.os ∧ PyProof.Rows.AllBare s2.gens
theorem law_coreG (kin : K.In t.heap) (nm : t.heap.Ns mainGlobals mg) (nb : t.heap.Ns builtinsNs mb) (bb : ∀ x : Str, x ≠ "__name__" → mb x = bootBuiltins x) (nl : t.heap.NoLimit) (gn : t.gens = #[]) (ha : t.heap.get? a = some (scr vs)) (hr : Room k callerA)
    (F : ∀ base : Heap, K.In base → base.Ns mainGlobals mg → FnOkG P w K mg base CX0 k fa fd [x] sp) (bind : ∀ (s : Shared) (u : Value), BindsTo s fd ⟨[u], []⟩ [(x, u)])
    (H : Hp) (only : ∀ c, H c = none ∨ c = a ∧ K.lookup a = none ∧ ∃ o xs, H c = some (.frz o (.lst xs))) (hok : HOk P w H t.heap) (prom : sp [.ref a] H (fun v _ => v = .bl true) fun _ _ _ => False) :
    codeAny (model P w) callerA (.call (.ref fa) ⟨[.ref a], []⟩) (EndG t) t := by
  have hid : ∀ {c : Addr} {o : Obj}, t.heap.get? c = some o → (c = a → K.lookup a = none → False) → (hidT t.heap H).get? c = some o := fun {c o} e n => hidT_get e ((only c).elim id fun z => (n z.1 z.2.1).elim)
  have nsp : ∀ {c : Addr} {m : Str → Option Value}, t.heap.Ns c m → (hidT t.heap H).Ns c m := by
    rintro c m ⟨o, es, ep, e, d, r⟩
    refine ⟨o, es, ep, hid e fun z _ => ?_, d, r⟩
    rw [z, ha] at e
    cases e
    cases (show Data.seq vs.toArray _ = Data.dict es ep from d)
  have kb : K.In (hidT t.heap H) := fun c o e => hid (kin c o e) fun z q => by rw [z, q] at e; cases e
  obtain ⟨ml, l1, l2⟩ := nl
  have en : Env0 P w K mg (hidT t.heap H) callerA [] t H :=
    ⟨rfl, ⟨kb, nsp nm, ⟨mb, nsp nb, bb⟩, ⟨ml, nsp l1, l2⟩⟩, fun _ _ => of_hidT, Nat.le_of_eq (hidT_size _ _), trivial, fun c z => (List.not_mem_nil (show c ∈ ([] : List Addr) from z)).elim, hok, .of_eq gn⟩
  refine codeAny_mono ((F _ kb (nsp nm)).run callerA [] t H ⟨[.ref a], []⟩ [.ref a] [.ref a] _ _ hr rfl en (bind t (.ref a)) (.cons rfl .nil) prom) fun r s2 h => ?_
  match r, h with
  | .error e, h => exact h.elim
  | .ok .next, h => exact h.elim
  | .ok .brk, h => exact h.elim
  | .ok .cont, h => exact h.elim
  | .ok (.ret u), ⟨v, G, os, bare, un, gok, rv, e⟩ =>
    have e : v = .bl true := e
    rw [e] at rv
    obtain rfl : u = Value.bool true := rv
    refine ⟨rfl, OldK.of_keep fun c o z => ?_, os, bare⟩
    rcases only c with n | ⟨_, _, ob, ys, n⟩
    · exact un.keep c o z n (fun y => (List.not_mem_nil (show c ∈ ([] : List Addr) from y)).elim) (by simp)
    · have h1 := (hok c _ n).1
      rw [z] at h1
      cases h1
      exact (gok c _ (un.frzs c _ _ n)).1
theorem law_callG (kin : K.In t.heap) (nm : t.heap.Ns mainGlobals mg) (nb : t.heap.Ns builtinsNs mb) (bb : ∀ x : Str, x ≠ "__name__" → mb x = bootBuiltins x) (nl : t.heap.NoLimit) (gn : t.gens = #[]) (ha : t.heap.get? a = some (scr vs)) (hi : PyProof.Rows.IntsAre vs ns) (hl : ns.length ≤ sizeLine) (hr : Room k callerA)
    (F : ∀ base : Heap, K.In base → base.Ns mainGlobals mg → FnOkG P w K mg base CX0 k fa fd [x] sp) (bind : ∀ (s : Shared) (u : Value), BindsTo s fd ⟨[u], []⟩ [(x, u)])
    (prom : ∀ H : Hp, SqL K H a (ns.map V.int) → sp [.ref a] H (fun v _ => v = .bl true) fun _ _ _ => False) :
    codeAny (model P w) callerA (.call (.ref fa) ⟨[.ref a], []⟩) (EndG t) t := by
  have vl := vals_ints hi
  have ln := hi.length
  cases e : K.lookup a with
  | none =>
    refine law_coreG kin nm nb bb nl gn ha hr F bind (fun c => if c = a then some (.frz (scr vs) (.lst (ns.map V.int))) else none) (fun c => ?_) (fun c u z => ?_) (prom _ (.inl (.inr ⟨scr vs, if_pos rfl⟩)))
    · by_cases h : c = a
      · exact .inr ⟨h, e, _, _, if_pos h⟩
      · exact .inl (if_neg h)
    · by_cases h : c = a
      · subst h
        cases (if_pos rfl).symm.trans z
        exact ⟨ha, by rw [List.length_map]; exact hl, vs, _, vl, ha⟩
      · cases (if_neg h).symm.trans z
  | some o =>
    have eo := kin a o e
    rw [ha] at eo
    cases eo
    exact law_coreG kin nm nb bb nl gn ha hr F bind (fun _ => none) (fun _ => .inl rfl) (fun c u z => by cases (show (none : Option HO) = some u from z)) (prom _ (.inr ⟨_, vs.toArray, _, e, rfl, rfl, rfl, by rw [List.size_toArray, ln]; exact hl, by simpa using vl⟩))
end
theorem walkG_of {l : PySem.W.OpenLaw} {n k : Nat} {q : Program} {loose : List Str} {XP : (Str → Option Value) → Heap → Prop} {YP : World → Heap → Prop} {d : DefRec} {K : PySem.Params → PySem.W.Frag} {sp : World → Sp} {x : Str}
    (hn : l.most = some n) (hz : n ≤ sizeLine) (hdf : d.params.defaults = []) (rm : Room k callerA) (hY : ∀ (w : World) (h : Heap), YP w h → (K w.params).In h)
    (F : ∀ (w : World) (mg : Str → Option Value) (fa : Addr) (h : Heap), (K w.params).In h → h.Ns mainGlobals mg → mg d.name = some (.ref fa) →
      ∃ fd : FuncData, (∀ (s : Shared) (u : Value), BindsTo s fd ⟨[u], []⟩ [(x, u)]) ∧ ∀ base : Heap, (K w.params).In base → base.Ns mainGlobals mg → FnOkG l.prog w (K w.params) mg base CX0 k fa fd [x] (sp w))
    (prom : ∀ (w : World) (H : Hp) (a : Addr) (ns : List Int), ns.length ≤ n → SqL (K w.params) H a (ns.map V.int) → sp w [.ref a] H (fun v _ => v = .bl true) fun _ _ _ => False) :
    PySem.W.WalkO q loose XP YP l.row.toRowW d [] (fun f vs => PySem.call f vs) :=
  Att.attach_call hn hdf fun w _ s1 mg mb fa _ _ _ _ a vs ns G Y _ _ _ hm hobj hints hlen hgen => by
    obtain ⟨fd, b, f⟩ := F w mg fa _ (hY w _ Y) G.T.g hm
    exact law_callG (hY w _ Y) G.T.g G.T.b G.T.builtins G.T.nolimit hgen hobj hints (Nat.le_trans hlen hz) rm f b fun H hS => prom w H a ns hlen hS
theorem ne_selfD {α : Type} [DecidableEq α] {x : α} : decide (x ≠ x) = false := decide_eq_false fun h => h rfl
/-! ### refusals -/
/-- a method asked where X.K must be written out -/
theorem pe_bmK {X : Cx} {K : PySem.W.Frag} {T : String} {name : Str} {id : String} {r : V → List V → Hp → VK → Prop} {o e : Expr} {es : List Expr} {to : TE} {t : TA} {apos cpos : Pos} (hK : X.K = K) (pa : PlainAttrs T) (slot : Slot T name id) (hty : typeOf (.builtin id) = pure (.type "method_descriptor")) (hm : MtR X id r) (ho : PE X o to) (ha : PA X (e :: es) t)
    (hbase : attributeBase o name X.env (eval o X.env) = eval o X.env := by rfl)
    (hfew : ((backTo cpos (starEach (e :: es) X.env)).all (fun x => !x.1) && (backToKw cpos (keywordEach [] X.env)).all (fun x => x.1.isSome)
      && decide ((e :: es).length + ([] : List Keyword).length + (if ([] : List Keyword).isEmpty then 0 else 1) < 30)) = true := by rfl)
    (hline : (apos.endLine == cpos.line) = true := by rfl) (hs : starEach (e :: es) X.env = (false, eval e X.env) :: starEach es X.env := by rfl) (hplain : (backTo cpos (starEach es X.env)).any (·.1) = false := by rfl) :
    PE X (.Call (.Attribute o name apos) (e :: es) [] cpos) (tBM K T r to t) := by
  subst hK
  exact pe_bm pa slot hty hm ho ha hbase hfew hline hs hplain
theorem takesN {X : Cx} : Takes X (fun _ _ _ _ => False) := fun _ _ z => by
  obtain ⟨_, _, _, _, _, _, _, _, _, _, _, _, _, _, _, _, h⟩ := z
  exact h.elim
section
variable {X : Cx} {x : Str} {ps : List Str} {j k : Nat} {sp : Sp} {e : Expr} {es : List Expr} {t : TA} {p pos : Pos}
/-- a def that may raise, called where it doesn't -/
theorem pe_fnN (F : FnX X.prog X.w X.K X.mg X.base x ps j sp) (hr : Room k X.A) (hg : Gl X x) (ha : PA X (e :: es) t) (hl : j ≤ k := by decide) (hdb : (x == ("__debug__" : Str)) = false := by decide)
    (he : starEach (e :: es) X.env = (false, eval e X.env) :: starEach es X.env := by rfl) (hpl : (backTo pos (starEach es X.env)).any (·.1) = false := by rfl) : PE X (.Call (.Name x p) (e :: es) [] pos) (tFn sp E0 t) :=
  pe_fnE F hr (passes_call (W := fun _ _ _ _ => False) takesN fun _ _ _ _ h => h) hg ha hl hdb he hpl
def tFnS (sp : Sp) (W : WX) (t : TA) : TE := fun σ H Q => t σ H fun vs H1 => sp vs H1 Q (WE W σ)
/-- called in a try -/
theorem pe_fnS (F : FnX X.prog X.w X.K X.mg X.base x ps j sp) (hr : Room k X.A) {W : WX} (tk : Takes X W) (hg : Gl X x) (ha : PA X (e :: es) t) (hl : j ≤ k := by decide) (hdb : (x == ("__debug__" : Str)) = false := by decide)
    (he : starEach (e :: es) X.env = (false, eval e X.env) :: starEach es X.env := by rfl) (hpl : (backTo pos (starEach es X.env)).any (·.1) = false := by rfl) : PE X (.Call (.Name x p) (e :: es) [] pos) (tFnS sp W t) := by
  obtain ⟨f, fd, hm, G, b, kp⟩ := F.ex
  exact pe_callS G (hr.mono hl) hg hm kp b (fun σ => passAt tk σ) ha hdb he hpl
instance {W : WX} {σ : L2.St} {H : Hp} {Q : VK} : Rd (tFnS sp W t σ H Q) (t σ H fun vs H1 => sp vs H1 Q (WE W σ)) := ⟨fun h => h⟩
end
class ExcI (K : PySem.W.Frag) (D : Addr) : Prop where h : ExcC K D
def rIsX (K : PySem.W.Frag) (a : Addr) (cls : Value) (d : Option Addr) : List V → Hp → VK → Prop := fun xs H Q => ∃ D, cls = .ref D ∧ d = none ∧ ExcC K D ∧ rIsE K D a xs H Q
theorem cr_isX {X : Cx} {K : PySem.W.Frag} (hK : X.K = K) {a : Addr} {oe : Obj} {cls : Value} {d : Option Addr} {pn : List (Addr × Obj)} (hz : Zc cls d oe) (hf : ∃ vs, oe.data = .fields vs) : CallR (X.suite a ((a, oe) :: pn)) (.builtin "isinstance") (rIsX K a cls d) := by
  subst hK
  intro pins s σ H xs us Q I r h
  obtain ⟨D, e1, e2, C, h⟩ := h
  subst e1 e2
  exact call_isE C hz hf pins s σ H xs us Q I r h
instance {K : PySem.W.Frag} {a C D : Addr} {H : Hp} {Q : VK} {b : Bool} [x : ExcI K D] [e : KitI K D C b] : Rd (rIsX K a (.ref D) none [.ref a, .ref C] H Q) (Q (.bl b) H) := ⟨fun h => ⟨D, rfl, rfl, x.h, .ref C, .ref C, b, rfl, fun _ r => r, e.h, h⟩⟩
class ExmI (K : PySem.W.Frag) (D C : Addr) : Prop where h : PySem.W.exmOne K (.ref D) (.ref C) = some true
theorem rd_catch {K : PySem.W.Frag} {C D : Addr} {i : Nat} {ts : Addr → Value → Option Addr → TS} {Wout : WX} {D' : Ends} {σ : L2.St} {H : Hp} [x : ExmI K D C]
    (h : ∀ a, H a = none → ts a (.ref D) none { nx := fun σ' H' => D'.nx (σ'.set i none) H', rt := D'.rt, bk := fun σ' H' => D'.bk (σ'.set i none) H', ct := fun σ' H' => D'.ct (σ'.set i none) H' } (σ.set i (some (.ref a))) H) : WE (wAs K (.ref C) i ts Wout D') σ (.ref D) none H :=
  ⟨true, x.h, fun _ a ha => h a ha, fun z => Bool.noConfusion z⟩
/-- what the written part says of a class that is raised -/
structure RaiC (K : PySem.W.Frag) (C : Addr) : Prop where
  x : PySem.W.excIn K C [.type "ValueError", .type "Exception", .type "BaseException", .type "object"] "ValueError.__new__" = true
  k : PySem.W.keepIn K (.ref C) = true
  b : PySem.W.subIn K (.ref C) (.type "BaseException") = some true
  t : PySem.W.typeIn K (.ref C) = some (.type "type")
/-! ### order of (number, list) -/
def rLtTL (K : PySem.W.Frag) : R2 := fun x y H Q => ∃ (a b : Int) (ns ms : List Int), Dp K H x (.tuple [.int a, dI ns]) ∧ Dp K H y (.tuple [.int b, dI ms]) ∧ Q (.bl (if a = b then PySem.W.listLt ns ms else decide (a < b))) H
theorem op_ltTL {X : Cx} {K : PySem.W.Frag} (hK : X.K = K) (hu : X.A.units + 64 < cLine) : OpR X (compareOp .Lt) (rLtTL K) := by
  subst hK
  intro pins s σ H x y v u Q I rx ry h
  obtain ⟨a, b, ns, ms, hd, he, q⟩ := h
  obtain ⟨as, r1⟩ := Dp.reads I _ x v hd rx
  obtain ⟨bs, r2⟩ := Dp.reads I _ y u he ry
  have h1 := dI_dep ns
  have e := PySem.W.DatumOrd.lt_eq (a, ns) (b, ms)
  refine PySem.W.lt_data r1 r2 (PySem.W.DatumOrd.alike (a, ns) (b, ms)) (fun z => by cases z) ?_ ⟨.bl (if a = b then PySem.W.listLt ns ms else decide (a < b)), H, I, ?_, q⟩
  · have h2 : (PyData.tuple [.int a, dI ns]).depth ≤ 3 := by
      rw [PyData.depth, PyData.depthAll, PyData.depthAll, PyData.depthAll, PyData.depth]
      omega
    omega
  · show Value.bool _ = Value.bool _
    exact congrArg Value.bool e
instance {K : PySem.W.Frag} {H : Hp} {Q : VK} {p q r t : Addr} {a b : Int} {xs ys : List V} {ns ms : List Int} [o : OB H p (.tup [.int a, .ref q])] [o1 : OB H q (.lst xs)] [e : ILs xs ns] [o2 : OB H r (.tup [.int b, .ref t])] [o3 : OB H t (.lst ys)] [f : ILs ys ms] :
    Rd (rLtTL K (.ref p) (.ref r) H Q) (Q (.bl (if a = b then PySem.W.listLt ns ms else decide (a < b))) H) := ⟨fun h =>
  ⟨a, b, ns, ms, .tup o.st (.cons (.int a) (.cons (.lst o1.sq (by rw [e.e]; exact dpInts ns)) .nil)), .tup o2.st (.cons (.int b) (.cons (.lst o3.sq (by rw [f.e]; exact dpInts ms)) .nil)), h⟩⟩
/-! ### texts: of a number, of its signs -/
def rStrI : List V → Hp → VK → Prop := fun xs H Q => ∃ i : Int, xs = [.int i] ∧ i.natAbs < 2 ^ 1900 ∧ Q (.str (Str.ofString (toString i))) H
theorem cr_strI {X : Cx} : CallR X (.type "str") rStrI := cr_weak call_str_int fun vs H Q ⟨i, e, h, q⟩ => ⟨i, e, by
  rcases Nat.eq_zero_or_pos i.natAbs with z | z
  · rw [z]; decide
  · have := (Nat.log2_lt (by omega)).mpr h
    omega, q⟩
theorem rd_strI {H : Hp} {Q : VK} {i : Int} (h : i.natAbs < 2 ^ 1900) (q : Q (.str (Str.ofString (toString i))) H) : rStrI [.int i] H Q := ⟨i, rfl, h, q⟩
def rListS0 : List V → Hp → VK → Prop := fun xs H Q => ∃ x : Str, xs = [.str x] ∧ x.cps.size ≤ 100000 ∧ ∀ l, H l = none → Q (.ref l) (upd H l (.lst (x.cps.toList.map fun c => V.str ⟨#[c]⟩)))
theorem call_list_text {X : Cx} (hc : X.calm = true) : CallR X (.type "list") rListS0 := by
  intro pins s σ H xs us Q I r h
  obtain ⟨x, e, hx, q⟩ := h
  subst e
  obtain ⟨u, eu, rx⟩ := vals1 r
  subst eu
  obtain ⟨t, rfl⟩ : ∃ t, u = Value.str x t := rx
  refine call_list_str (I.ok.hd hc) x t (fun h' tk acc' c' kp e hacc => ?_) (small_of hx)
  have el : acc'.toList.length = acc'.size := by simp
  refine ⟨.ref s.heap.objs.size, upd H s.heap.objs.size (.lst (x.cps.toList.map fun c => V.str ⟨#[c]⟩)), I.laid kp (Nat.le_refl _) (show ObjOk X.prog X.w _ _ _ (.lst (x.cps.toList.map fun c => V.str ⟨#[c]⟩)) from ⟨?_, acc'.toList, c', ?_, ?_⟩), rfl, q _ (I.hok.fresh (Nat.le_refl _))⟩
  · rw [List.length_map, Array.length_toList]; exact small_of hx
  · refine vals_of_at (by rw [List.length_map, Array.length_toList, el, hacc.1]) fun j y w h1 h2 => ?_
    obtain ⟨c, u, hcu, hw⟩ := hacc.2 j w (by rw [← Array.getElem?_toList]; exact h2)
    rw [List.getElem?_map, Array.getElem?_toList, hcu] at h1
    have h1 : V.str ⟨#[c]⟩ = y := Option.some.inj h1
    subst h1
    exact ⟨u, hw⟩
  · exact e
def rListS : List V → Hp → VK → Prop := fun xs H Q => ∃ x : Str, xs = [.str x] ∧ x.cps.size ≤ 100000 ∧ kNew Q (.lst (x.cps.toList.map fun c => V.str ⟨#[c]⟩)) H
theorem cr_listS {X : Cx} (hc : X.calm = true) : CallR X (.type "list") rListS := cr_weak (call_list_text hc) fun vs H Q ⟨x, e, h, q⟩ => ⟨x, e, h, q.of⟩
theorem rd_listS {H : Hp} {Q : VK} {x : Str} (h : x.cps.size ≤ 100000) (q : kNew Q (.lst (x.cps.toList.map fun c => V.str ⟨#[c]⟩)) H) : rListS [.str x] H Q := ⟨x, rfl, h, q⟩
class SLs (xs : List V) (ss : outParam (List Str)) : Prop where e : xs = ss.map V.str
instance slNil : SLs [] [] := ⟨rfl⟩
instance slCons {b : Str} {xs : List V} {bs : List Str} [o : SLs xs bs] : SLs (.str b :: xs) (b :: bs) := ⟨by rw [o.e]; rfl⟩
instance slMap {bs : List Str} : SLs (bs.map V.str) bs := ⟨rfl⟩
instance slMapF {α : Type} {l : List α} {f : α → Str} : SLs (l.map fun x => V.str (f x)) (l.map f) := ⟨by rw [List.map_map]; rfl⟩
theorem dpStrs {K : PySem.W.Frag} {H : Hp} : ∀ bs : List Str, DpAll K H (bs.map V.str) (bs.map PyData.str)
  | [] => .nil
  | b :: r => .cons (.str b) (dpStrs r)
class StOk (bs : List Str) : Prop where h : ∀ b ∈ bs, PyData.strOk b = true
theorem lay_strs : ∀ bs : List Str, (∀ b ∈ bs, PyData.strOk b = true) → PyData.canLayAll0 (bs.map PyData.str) = true
  | [], _ => by rw [List.map_nil, PyData.canLayAll0]
  | b :: r, h => by rw [List.map_cons, PyData.canLayAll0, PyData.canLay0, h b (by simp), lay_strs r fun x hx => h x (by simp [hx])]; rfl
instance dpSLs {K : PySem.W.Frag} {H : Hp} {p : Addr} {xs : List V} {bs : List Str} [o : OB H p (.lst xs)] [e : SLs xs bs] [k : StOk bs] : DP K H (.ref p) (.list (bs.map PyData.str)) := ⟨.lst o.sq (by rw [e.e]; exact dpStrs bs), by
  have := dep_map PyData.str 0 (fun _ => by rw [PyData.depth]; exact Nat.le_refl 0) bs
  unfold SeqAt.shaped
  rw [PyData.canLay0, PyData.depth, lay_strs bs k.h, Bool.true_and, decide_eq_true_iff]
  omega⟩
instance {bs cs : List Str} : EqD (.list (bs.map PyData.str)) (.list (cs.map PyData.str)) (decide (bs = cs)) := ⟨by
  show PyData.eqvAll _ _ = _
  exact eqv_map PyData.str (fun x y => by rw [PyData.eqv]; by_cases h : x = y <;> simp [h]) bs cs⟩
/-! ### list(range(a, b)) of great numbers -/
section
variable {prog : Program} {w : World} {A : Around} {E : Value → Shared → Prop} {s : Shared}
theorem ext_long {R : Result → Shared → Prop} {r : Addr} {a b c : Int} {t u v : Tok} {n : Nat} (hh : A.handled = none) (hr : IsRange s.heap r a b c t u v) (hbig : Builtin.Range.small a b c = false)
    (hn : Builtin.Range.rangeSize a b c = n) (hlen : n ≤ 2 ^ 24) (S : Addr) (res : Value) (c₀ : Nat) (hS : s.heap.get? S = some { cls := .type "list", data := .seq #[] c₀ })
    (hR : ∀ h' tk acc' c', (∀ b o, b ≠ S → s.heap.get? b = some o → h'.get? b = some o) → h'.get? S = some { cls := .type "list", dict := none, data := .seq acc' c', slots := #[] } →
      ItemsOf (fun i v => ∃ t, v = .int (a + i * c) t) acc' n → R (.ok (.ret res)) { s with heap := h', toks := tk }) :
    wpAny (model prog w) A.in1 (Builtin.List.listExtendWith (.ref S) (.ref r) res)
      (fun fin s' => match fin with | .done f => R (.ok f) s' | .again c' => c'.quiet = true ∧ codeAny (model prog w) A c' R s') (fun e s' => R (.error e) s') s := by
  have hSr : S ≠ r := fun e => by rw [e, hr] at hS; simp at hS
  have hSlt : S < s.heap.objs.size := Heap.lt_size hS
  have hSI : S ≠ s.heap.objs.size := Nat.ne_of_lt hSlt
  have hSf : S ∉ [s.heap.objs.size] := fun hm => hSI (List.mem_singleton.mp hm)
  have W := (Walks.longrange (prog := prog) (w := w) (A := A.in1) hh s.heap.objs.size a c n).toS
  have key : ∀ (h : Heap) (c₁ tk : Nat), IsLongIter h s.heap.objs.size (a + ((0 : Nat) : Int) * c) ((n : Int) - ((0 : Nat) : Int)) c → (∀ b o, b ≠ S → s.heap.get? b = some o → h.get? b = some o) →
      h.get? S = some { cls := .type "list", data := .seq #[] c₁ } → codeAny (model prog w) A (.builtin "list.extend.loop" ⟨[.ref S, .ref s.heap.objs.size, res], []⟩) R { s with heap := h, toks := tk } := by
    intro h c₁ tk hit hk hS₁
    refine codeAny_extend_loopS W (by rw [sizeLine_eq]; omega) S hSf res n 0 _ #[] c₁ rfl (Nat.zero_le _) hit hS₁ (ItemsOf.nil _) fun s' acc' c' hm hS' hacc => ?_
    rw [Moved.eq_with hm]
    refine hR s'.heap s'.toks acc' c' (fun b o hb e => hm.heap b o (fun hmem => ?_) (hk b o hb e)) hS' hacc
    rcases List.mem_cons.mp hmem with e' | hmem
    · exact hb e'
    · exact absurd (Heap.lt_size e) (by rw [List.mem_singleton.mp hmem]; exact Nat.lt_irrefl _)
  unfold Builtin.List.listExtendWith
  refine wpAny_bind (wpAny_typeOf (T := "range") ⟨_, hr, rfl⟩ ?_)
  have h1 : Builtin.List.listSameRef (.ref S) (.ref r) = false := by simp [Builtin.List.listSameRef, hSr]
  have h2 : (Value.type "range" == Value.type "list") = false := by decide
  have h3 : (Value.type "range" == Value.type "tuple") = false := by decide
  simp only [h1, h2, h3, Bool.or_false, Bool.false_eq_true, if_false]
  refine wpAny_bind (wpAny_pyIter_longrange hr hbig ?_)
  refine wpAny_bind (wpAny_holding (wpAny_hint_range (n := n) (Heap.get?_push_of_some _ hr) hn hlen ?_))
  have hit₁ : IsLongIter (s.heap.push { cls := .type "longrange_iterator", data := .fields #[rawInt a, rawInt (Builtin.Range.rangeSize a b c), rawInt c] }) s.heap.objs.size (a + ((0 : Nat) : Int) * c) ((n : Int) - ((0 : Nat) : Int)) c := by
    show IsLongIter _ _ _ _ _
    rw [hn]
    simpa using Heap.get?_push_size _ rfl
  have hS₁ := Heap.get?_push_of_some { cls := .type "longrange_iterator", data := .fields #[rawInt a, rawInt (Builtin.Range.rangeSize a b c), rawInt c] } hS
  refine wpAny_ite_split (fun _ => ?_) (fun _ => wpAny_pure ⟨plainId_quiet F.plain_extend_loop _, key _ c₀ _ hit₁ (fun b o _ e => Heap.get?_push_of_some _ e) hS₁⟩)
  refine wpAny_bind (wpAny_rule ?_)
  refine wpAny_bind ?_
  show wpAny _ _ (updateSeq S (·.push .none) >>= fun _ => updateSeq S (·.pop)) _ _ _
  refine wpAny_bind (wpAny_updateSeq hS₁ rfl ?_)
  have hS₂ := Heap.get?_update_self (Obj.mapSeq (·.push Value.none)) hS₁ rfl
  refine wpAny_updateSeq (hz := by seq_fits) hS₂ rfl ?_
  have hS₃ := Heap.get?_update_self (Obj.mapSeq (·.pop)) hS₂ rfl
  refine wpAny_pure ⟨plainId_quiet F.plain_extend_loop _, key _ _ _ ?_ (fun b o hb e => ?_) hS₃⟩
  · exact (Heap.get?_update_other _ _ hSI).trans ((Heap.get?_update_other _ _ hSI).trans hit₁)
  · exact (Heap.get?_update_other _ _ (Ne.symm hb)).trans ((Heap.get?_update_other _ _ (Ne.symm hb)).trans (Heap.get?_push_of_some _ e))
theorem init_long {R : Result → Shared → Prop} {r : Addr} {a b c : Int} {t u v : Tok} {n : Nat} (hh : A.handled = none) (hr : IsRange s.heap r a b c t u v) (hbig : Builtin.Range.small a b c = false)
    (hn : Builtin.Range.rangeSize a b c = n) (hlen : n ≤ 2 ^ 24) (S : Addr) (hS : s.heap.get? S = some { cls := .type "list", data := .seq #[] })
    (hR : ∀ h' tk acc' c', (∀ b o, b ≠ S → s.heap.get? b = some o → h'.get? b = some o) → h'.get? S = some { cls := .type "list", dict := none, data := .seq acc' c', slots := #[] } →
      ItemsOf (fun i v => ∃ t, v = .int (a + i * c) t) acc' n → R (.ok (.ret .none)) { s with heap := h', toks := tk }) :
    wpAny (model prog w) A.in1 (Builtin.«list.__init__» ⟨[.ref S, .ref r], []⟩)
      (fun fin s' => match fin with | .done f => R (.ok f) s' | .again c' => c'.quiet = true ∧ codeAny (model prog w) A c' R s') (fun e s' => R (.error e) s') s := by
  have hSr : S ≠ r := fun e => by rw [e, hr] at hS; simp at hS
  show wpAny _ _ (do let old ← Builtin.List.listItems (.ref S); Builtin.List.listUpdate (.ref S) (fun _ => #[]); letGo old.toList.reverse; Builtin.List.listExtendWith (.ref S) (.ref r) .none) _ _ s
  refine wpAny_bind ?_
  unfold Builtin.List.listItems
  refine wpAny_bind (wpAny_seqItems hS rfl (wpAny_pure ?_))
  show wpAny _ _ (updateSeq S (fun _ => #[]) >>= fun _ => letGo (#[] : Array Value).toList.reverse >>= fun _ => Builtin.List.listExtendWith (.ref S) (.ref r) .none) _ _ s
  refine wpAny_bind (wpAny_updateSeq hS rfl ?_)
  have hS₂ := Heap.get?_update_self (Obj.mapSeq (fun _ => (#[] : Array Value))) hS rfl
  have oth : ∀ b o, b ≠ S → s.heap.get? b = some o → (s.heap.update S (Obj.mapSeq (fun _ => (#[] : Array Value)))).get? b = some o :=
    fun b o hb e => (Heap.get?_update_other _ _ (Ne.symm hb)).trans e
  refine wpAny_bind (wpAny_letGo ?_)
  refine ext_long hh (oth r _ (Ne.symm hSr) hr) hbig hn hlen S .none _ hS₂ fun h' tk acc' c' hk hS' hacc => ?_
  exact hR h' tk acc' c' (fun b o hb e => hk b o hb (oth b o hb e)) hS' hacc
theorem call_list_long {Q : Value → Shared → Prop} {r : Addr} {a b c : Int} {t u v : Tok} {n : Nat} (hh : A.handled = none) (hr : IsRange s.heap r a b c t u v)
    (hn : Builtin.Range.rangeSize a b c = n) (hlen : n ≤ 2 ^ 24)
    (hQ : ∀ h' tk acc' c', (∀ b o, s.heap.get? b = some o → h'.get? b = some o) →
      h'.get? s.heap.objs.size = some { cls := .type "list", dict := none, data := .seq acc' c', slots := #[] } → ItemsOf (fun i v => ∃ t, v = .int (a + i * c) t) acc' n → Q (.ref s.heap.objs.size) { s with heap := h', toks := tk }) :
    wpAny (model prog w) A (call (.type "list") [.ref r]) Q E s := by
  cases hbig : Builtin.Range.small a b c with
  | true => exact call_list_range hh hr hbig hn hlen hQ
  | false =>
    refine callType_codes (Q₁ := fun obj s₁ => obj = .ref s.heap.objs.size ∧ s₁ = { s with heap := s.heap.push { cls := .type "list", data := .seq #[] } }) F.called_list (F.typeCall_list_1 _) F.entry_list_init
      (code_list_new _ ⟨rfl, rfl⟩) fun obj s₁ h₁ => ?_
    obtain ⟨rfl, rfl⟩ := h₁
    have hS : (s.heap.push { cls := .type "list", data := .seq #[] }).get? s.heap.objs.size = some { cls := .type "list", data := .seq #[] } := Heap.get?_push_size _ rfl
    refine ⟨⟨_, hS, rfl⟩, F.args_list_init_2 _ _, init_long (A := A.in1) hh (Heap.get?_push_of_some _ hr) hbig hn hlen _ hS fun h' tk acc' c' hk hS' hacc => ?_⟩
    exact ⟨rfl, hQ h' tk acc' c' (fun b o e => hk b o (Nat.ne_of_lt (Heap.lt_size e)) (Heap.get?_push_of_some _ e)) hS' hacc⟩
end
/-- i, i + 1 .. j - 1 -/
def rgI (i j : Int) : List Int := (List.range (j - i).toNat).map fun k : Nat => i + (k : Nat) * 1
theorem rgI_len (i j : Int) : (rgI i j).length = (j - i).toNat := by unfold rgI; rw [List.length_map, List.length_range]
def kLR2 (Q : VK) : List V → Hp → Prop := fun vs H => ∃ i j : Int, vs = [.int i, .int j] ∧ (j - i).toNat ≤ 100000 ∧ kNew Q (.lst ((rgI i j).map V.int)) H
def tLR2 (ta : TA) : TE := fun σ H Q => ta σ H (kLR2 Q)
section
variable {X : Cx} {a b : Expr} {ta : TA} {p p2 pos pos2 : Pos}
theorem made_range2 (hg2 : Gl X "range") (hm2 : X.mg "range" = none) (ha : PA X [a, b] ta) (hs : starEach [a, b] X.env = (false, eval a X.env) :: starEach [b] X.env) (hpl : (backTo pos2 (starEach [b] X.env)).any (·.1) = false)
    {pins : List (Addr × Obj)} {s : Shared} {σ : L2.St} {H : Hp} {Q : VK} (I : Inv X pins σ H s) (h : ta σ H (kLR2 Q)) :
    wpAny (model X.prog X.w) X.A (eval (.Call (.Name "range" p2) [a, b] [] pos2) X.env) (fun x s' => ∃ r i j t u v H', x = .ref r ∧ IsRange s'.heap r i j 1 t u v ∧ Inv X pins σ H' s' ∧ (j - i).toNat ≤ 100000 ∧ kNew Q (.lst ((rgI i j).map V.int)) H') X.xe s := by
  refine PyProof.Rows.Call_ (ld_blt I hg2 hm2 PyProof.Rows.boot_range (PyProof.Rows.callWith_type1 (thn (ha.run pos2 pins s σ H _ I h) ?_) hs hpl))
  rintro us s1 ⟨vs, H1, I1, r1, i, j, e, hn, q⟩
  subst e
  obtain ⟨u1, u2, rfl, w1, w2⟩ := vals2 r1
  obtain ⟨t1, rfl⟩ := w1
  obtain ⟨t2, rfl⟩ := w2
  exact call_range_2 ⟨_, i, j, _, _, _, H1, rfl, IsRange.new _ _ _ _ _ _ _, I1.kept fun b u e => Heap.get?_push_of_some _ e, hn, q⟩
theorem pe_listR2 (hc : X.calm = true) (hg : Gl X "list") (hm : X.mg "list" = none) (hg2 : Gl X "range") (hm2 : X.mg "range" = none) (ha : PA X [a, b] ta)
    (hs : starEach [a, b] X.env = (false, eval a X.env) :: starEach [b] X.env := by rfl) (hpl : (backTo pos2 (starEach [b] X.env)).any (·.1) = false := by rfl)
    (na : starEach [.Call (.Name "range" p2) [a, b] [] pos2] X.env = (false, eval (.Call (.Name "range" p2) [a, b] [] pos2) X.env) :: starEach [] X.env := by rfl) :
    PE X (.Call (.Name "list" p) [.Call (.Name "range" p2) [a, b] [] pos2] [] pos) (tLR2 ta) := by
  refine ⟨fun pins s σ H Q I h => ?_⟩
  refine PyProof.Rows.Call_ (ld_blt I hg hm PyProof.Rows.boot_list (PyProof.Rows.callWith_type1 (PyProof.Rows.args_cons (thn (made_range2 hg2 hm2 ha hs hpl I h) ?_) na) na))
  rintro x s1 ⟨r, i, j, t, u, v, H1, rfl, hr, I1, hn, q⟩
  refine PyProof.Rows.args_nil (call_list_long (n := (j - i).toNat) (I1.ok.hd hc) hr (PyProof.Rows.rangeSize_nat i j) (Nat.le_trans hn (by decide)) ?_)
  intro h' tk acc c' hk e' hi
  have len : acc.toList.length = (j - i).toNat := by rw [Array.length_toList]; exact hi.1
  have hv : Vals ((rgI i j).map V.int) acc.toList := by
    unfold rgI
    rw [List.map_map, ← len]
    refine L2.vals_of_get acc.toList _ fun m w hw => hi.2 m w (by rw [← hw, Array.getElem?_toList])
  have okk : ObjOk X.prog X.w (upd H1 s1.heap.objs.size (.lst ((rgI i j).map V.int))) h' s1.heap.objs.size (.lst ((rgI i j).map V.int)) := ⟨by rw [List.length_map, rgI_len]; exact small_of hn, acc.toList, c', hv, by rw [Array.toArray_toList]; exact e'⟩
  exact ⟨.ref s1.heap.objs.size, _, I1.laid hk (Nat.le_refl _) okk, rfl, q.of _ (I1.hok.fresh (Nat.le_refl _))⟩
end
instance {tA : TA} {σ : L2.St} {H : Hp} {Q : VK} : Rd (tLR2 tA σ H Q) (tA σ H (kLR2 Q)) := ⟨fun h => h⟩
theorem rd_kLR2 {Q : VK} {H : Hp} {i j : Int} (hn : (j - i).toNat ≤ 100000) (q : kNew Q (.lst ((rgI i j).map V.int)) H) : kLR2 Q [.int i, .int j] H := ⟨i, j, rfl, hn, q⟩
theorem rgI_get {i j : Int} {k : Nat} (h : k < (j - i).toNat) : (rgI i j)[k]? = some (i + k) := by
  unfold rgI
  rw [List.getElem?_map, List.getElem?_range h, Option.map_some, Int.mul_one]
theorem rgI_mem {i j z : Int} : z ∈ rgI i j ↔ i ≤ z ∧ z < j := by
  unfold rgI
  rw [List.mem_map]
  constructor
  · rintro ⟨k, hk, rfl⟩
    have := List.mem_range.mp hk
    omega
  · rintro ⟨h1, h2⟩
    exact ⟨(z - i).toNat, List.mem_range.mpr (by omega), by omega⟩
theorem rgI_cons {i j : Int} (h : i < j) : rgI i j = i :: rgI (i + 1) j := by
  apply List.ext_getElem?
  intro k
  cases k with
  | zero => rw [rgI_get (by omega)]; simp
  | succ k =>
    rw [List.getElem?_cons_succ]
    by_cases hk : k + 1 < (j - i).toNat
    · rw [rgI_get hk, rgI_get (by omega)]
      congr 1
      omega
    · rw [List.getElem?_eq_none (by rw [rgI_len]; omega), List.getElem?_eq_none (by rw [rgI_len]; omega)]
theorem rgI_nil {i j : Int} (h : j ≤ i) : rgI i j = [] := by
  unfold rgI
  rw [show (j - i).toNat = 0 by omega]
  rfl
theorem rgI_app {i j k : Int} (h1 : i ≤ j) (h2 : j ≤ k) : rgI i j ++ rgI j k = rgI i k := by
  obtain ⟨n, hn⟩ : ∃ n : Nat, j = i + n := ⟨(j - i).toNat, by omega⟩
  induction n generalizing i with
  | zero =>
    have : j = i := by omega
    subst this
    rw [rgI_nil (Int.le_refl _)]
    rfl
  | succ n ih =>
    rw [rgI_cons (show i < j by omega), rgI_cons (show i < k by omega), List.cons_append, ih (by omega) (by omega)]
theorem rgI_asc (i j : Int) : (rgI i j).Pairwise (· < ·) := by
  obtain ⟨n, hn⟩ : ∃ n : Nat, j ≤ i + n := ⟨(j - i).toNat, by omega⟩
  induction n generalizing i with
  | zero => rw [rgI_nil (by omega)]; exact .nil
  | succ n ih =>
    by_cases h : i < j
    · rw [rgI_cons h]
      refine .cons (fun z hz => ?_) (ih (i + 1) (by omega))
      have := rgI_mem.mp hz
      omega
    · rw [rgI_nil (by omega)]; exact .nil
/-- lists that rise and have the same members -/
theorem asc_eq : ∀ (l m : List Int), l.Pairwise (· < ·) → m.Pairwise (· < ·) → (∀ k, k ∈ l ↔ k ∈ m) → l = m
  | [], [], _, _, _ => rfl
  | [], y :: ys, _, _, h => by have := (h y).mpr (by simp); cases this
  | x :: xs, [], _, _, h => by have := (h x).mp (by simp); cases this
  | x :: xs, y :: ys, h1, h2, h => by
    obtain ⟨a1, a2⟩ := List.pairwise_cons.mp h1
    obtain ⟨b1, b2⟩ := List.pairwise_cons.mp h2
    have e : x = y := by
      rcases List.mem_cons.mp ((h x).mp (by simp)) with z | z
      · exact z
      · rcases List.mem_cons.mp ((h y).mpr (by simp)) with w | w
        · exact w.symm
        · have := b1 x z
          have := a1 y w
          omega
    subst e
    rw [asc_eq xs ys a2 b2 fun k => ?_]
    constructor
    · intro hk
      rcases List.mem_cons.mp ((h k).mp (by simp [hk])) with z | z
      · have := a1 k hk; omega
      · exact z
    · intro hk
      rcases List.mem_cons.mp ((h k).mpr (by simp [hk])) with z | z
      · have := b1 k hk; omega
      · exact z
/-! ### sorted(set(xs)) -/
section
variable {P : Program} {w : World} {A : Around} {E : Value → Shared → Prop} {s : Shared}
set_option maxHeartbeats 3200000 in
theorem call_set_lstI {l : Addr} {items : Array Value} (ns : List Int) {Q : Value → Shared → Prop} (hh : A.handled = none) (hl : s.heap.IsList l items) (hit : PyProof.Rows.IntsAre items.toList ns) (hb : ns.length + 1 < scanBound)
    (h : ∀ (h' : Heap) (tk c : Nat), SetR w h' s.heap.objs.size (fun j => decide (j ∈ ns)) c → c ≤ ns.length → (∀ b o, s.heap.get? b = some o → h'.get? b = some o) → Q (.ref s.heap.objs.size) { s with heap := h', toks := tk }) :
    wpAny (model P w) A (call (.type "set") [.ref l]) Q E s := by
  have hisz : items.size = ns.length := by
    have q := PyProof.Rows.IntsAre.length hit
    rw [Array.length_toList] at q
    exact q
  obtain ⟨c, tl, hmro⟩ := F.called_set.mro
  have hmade := F.called_set.made
  have hsub := F.called_set.sub
  refine wpAny_call (codeAny_of_tree ?_)
  show wpAny _ _ (callAny (.type "set") _) _ _ _
  refine wpAny_pure ⟨Code.quiet_builtin _ (by decide +kernel), codeAny_builtin F.entry_type_call ?_⟩
  rw [Around.under_plain (weight_type_call_type "set" [.ref l] []) rfl]
  have h1 := F.called_set.notType
  have h2 := F.called_set.canCreate
  have hct := F.typeCall_set_1 (.ref l)
  repeat (any_goals (first | assumption | wp_step))
  refine codeAny_mono (code_set_led1 (.ref l) (E := E) (Q₁ := fun obj s₁ => obj = .ref s.heap.objs.size ∧ s₁ = { s with heap := s.heap.push { cls := .type "set", dict := none, data := .set #[] 0 (.fresh 0 0 (!w.params.followText "set-order")) } }) ⟨rfl, rfl⟩) fun r s₁ hr => ?_
  cases r with
  | error e => exact hr
  | ok fl =>
    cases fl with
    | ret obj =>
      obtain ⟨rfl, rfl⟩ := hr
      have hS : (s.heap.push { cls := .type "set", dict := none, data := .set #[] 0 (.fresh 0 0 (!w.params.followText "set-order")) }).get? s.heap.objs.size = some { cls := .type "set", dict := none, data := .set #[] 0 (.fresh 0 0 (!w.params.followText "set-order")) } := Heap.get?_push_size _ rfl
      have hT : Shared.TypeIs { s with heap := s.heap.push { cls := .type "set", dict := none, data := .set #[] 0 (.fresh 0 0 (!w.params.followText "set-order")) } } (.ref s.heap.objs.size) "set" := ⟨_, hS, rfl⟩
      have hli := F.called_set.init.lookup
      have hbi := F.called_set.init.bind (.ref s.heap.objs.size)
      repeat (any_goals (first | assumption | wp_step))
      refine codeAny_mono (codeAny_call_builtin (R := wants (fun r s₂ => r = .none ∧ ∃ h' tk c, s₂ = { s with heap := h', toks := tk } ∧ SetR w h' s.heap.objs.size (fun j => decide (j ∈ ns)) c ∧ c ≤ ns.length ∧
          (∀ b o, s.heap.get? b = some o → h'.get? b = some o)) E) F.called_set.init.plain F.entry_set_init (check_set_init_1 hT ?_)) fun r₂ s₂ hr₂ => ?_
      · obtain ⟨ol, hol, hcl, nl, hdl⟩ := hl
        obtain ⟨ocls, odict, odata, oslots⟩ := ol
        simp only at hcl hdl
        subst hcl; subst hdl
        have hol' : (s.heap.push { cls := .type "set", dict := none, data := .set #[] 0 (.fresh 0 0 (!w.params.followText "set-order")) }).get? l = some { cls := .type "list", dict := odict, data := .seq items nl, slots := oslots } := Heap.get?_push_of_some _ hol
        have hsls := F.sub_list_set
        have hslf := F.sub_list_frozenset
        have hne : (Value.type "list" == Value.type "dict") = false := by decide
        have hl1 : (s.heap.push { cls := .type "set", dict := none, data := .set #[] 0 (.fresh 0 0 (!w.params.followText "set-order")) }).IsList l items := ⟨_, hol', rfl, nl, rfl⟩
        unfold Builtin.«set.__init__» noKeywords Builtin.Frozenset.updateFrom
        generalize hPI : pyIter = PI
        wp_walk
        subst hPI
        refine wpAny_pyIter_list hl1 ?_
        refine wpAny_bind (wpAny_runValue ?_)
        have hlS : l < s.heap.objs.size := Heap.lt_size hol
        have hh3 : A.in1.in1.in1.handled = none := by simp [hh]
        have hneI : l ≠ (s.heap.push { cls := .type "set", dict := none, data := .set #[] 0 (.fresh 0 0 (!w.params.followText "set-order")) }).objs.size := by
          rw [Heap.size_push]; exact Nat.ne_of_lt (Nat.lt_succ_of_lt hlS)
        have hSf : s.heap.objs.size ∉ [(s.heap.push { cls := .type "set", dict := none, data := .set #[] 0 (.fresh 0 0 (!w.params.followText "set-order")) }).objs.size, l] := by
          rw [Heap.size_push]; simp only [List.mem_cons, List.mem_singleton, List.not_mem_nil, or_false, not_or]
          exact ⟨Nat.ne_of_lt (Nat.lt_succ_self _), Nat.ne_of_gt hlS⟩
        have hval : ∀ (i : Nat) (v : Value), items[i]? = some v → ∃ k t, ns[i]? = some k ∧ v = .int k t := fun i v hv => by
          have hi : i < ns.length := by rw [← hisz]; exact (Array.getElem?_eq_some_iff.mp hv).1
          obtain ⟨t, e⟩ := PyProof.Rows.IntsAre.int_at hit i v (by rw [Array.getElem?_toList]; exact hv)
          refine ⟨ns[i], t, List.getElem?_eq_getElem hi, ?_⟩
          rw [e, List.getD_eq_getElem?_getD, List.getElem?_eq_getElem hi] <;> rfl
        refine set_update_ints ((Walks.list hh3 _ l hneI items).toS) s.heap.objs.size
          hSf ns hisz hb hval (items.size - 0) 0 _ (by omega) (Nat.zero_le _)
          ⟨⟨_, Heap.get?_push_size _ rfl, rfl, rfl⟩, (hl1.push _)⟩ ?hS0 ?hR
        case hS0 =>
          have hget : ((s.heap.push { cls := .type "set", dict := none, data := .set #[] 0 (.fresh 0 0 (!w.params.followText "set-order")) }).push { cls := .type "list_iterator", data := .fields #[.ref l, .int 0 0] }).get? s.heap.objs.size
              = some { cls := .type "set", dict := none, data := .set #[] 0 (.fresh 0 0 (!w.params.followText "set-order")) } := Heap.get?_push_of_some _ hS
          exact ⟨0, Nat.le_refl 0, setR_new_at hget⟩
        case hR =>
          intro s' c' hm hc' hS'
          obtain ⟨h', g2, d', tk', os'⟩ := s'
          have eg : g2 = s.gens := hm.gens
          have ed : d' = s.drawn := hm.drawn
          have eo : os' = s.os := hm.os
          subst eg; subst ed; subst eo
          show wpAny _ _ _ _ _ _
          refine wpAny_pure ?_
          show wpAny _ _ (ret Value.none) _ _ _
          rw [hisz] at hc'
          refine wpAny_pure ⟨rfl, h', tk', c', rfl, hS', hc', fun b o e => ?_⟩
          have hb0 : b < s.heap.objs.size := Heap.lt_size e
          have hb1 : b ≠ s.heap.objs.size := Nat.ne_of_lt hb0
          have hb2 : b ≠ (s.heap.push { cls := .type "set", dict := none, data := .set #[] 0 (.fresh 0 0 (!w.params.followText "set-order")) }).objs.size := by
            rw [Heap.size_push]; exact Nat.ne_of_lt (Nat.lt_succ_of_lt hb0)
          exact hm.heap b o (by simp only [List.mem_cons, List.mem_singleton, List.not_mem_nil, or_false, not_or]; exact ⟨hb1, hb2⟩) (Heap.get?_push_of_some _ (Heap.get?_push_of_some _ e))
      · cases r₂ with
        | error e => exact hr₂
        | ok fl₂ =>
          cases fl₂ with
          | ret r =>
            obtain ⟨rfl, h', tk, c', rfl, hS', hc', hk'⟩ := hr₂
            repeat (any_goals (first | assumption | wp_step))
            exact h _ _ _ hS' hc' hk'
          | _ => exact hr₂.elim
    | _ => exact hr.elim
end
def kSortS (K : PySem.W.Frag) (Q : VK) : VK := fun x H => ∃ (p : Addr) (ns : List Int), x = .ref p ∧ OB H p (.lst (ns.map V.int)) ∧ ns.length < 64 ∧ ∀ ms : List Int, ms.Pairwise (· < ·) → (∀ k, k ∈ ms ↔ k ∈ ns) → kNew Q (.lst (ms.map V.int)) H
def tSortS (K : PySem.W.Frag) (ta : TE) : TE := fun σ H Q => ta σ H (kSortS K Q)
theorem pe_sortedSet {X : Cx} {K : PySem.W.Frag} {a : Expr} {ta : TE} {p p2 q pos : Pos} (hK : X.K = K) (hc : X.calm = true) (hg : Gl X "sorted") (hm : X.mg "sorted" = none) (hg2 : Gl X "set") (hm2 : X.mg "set" = none) (ha : PE X a ta)
    (na : starEach [a] X.env = (false, eval a X.env) :: starEach [] X.env := by rfl) : PE X (.Call (.Name "sorted" p) [.Call (.Name "set" p2) [a] [] q] [] pos) (tSortS K ta) := by
  subst hK
  refine ⟨fun pins s σ H Q I h => ?_⟩
  refine PyProof.Rows.Call_ (ld_blt I hg hm PyProof.Rows.boot_sorted ?_)
  refine PyProof.Rows.callWith_builtin1 (PyProof.Rows.args_cons ?_ rfl) rfl rfl
  refine PyProof.Rows.Call_ (ld_blt I hg2 hm2 PyProof.Rows.boot_set ?_)
  refine PyProof.Rows.callWith_type1 (PyProof.Rows.args_cons (thn (ha.run pins s σ H _ I h) fun v s1 ⟨x, H1, I1, r1, q1⟩ => PyProof.Rows.args_nil ?_) na) na rfl
  obtain ⟨l, ns, rfl, o, h64, q1⟩ := q1
  cases r1
  obtain ⟨its, r, pl, hz⟩ := I1.list (OB.sq (K := X.K) o)
  refine call_set_lstI ns (I1.ok.hd hc) pl.isList (by simpa using r.ints) (by unfold scanBound; omega) fun h' tk c R hcl hk => ?_
  refine PyProof.Rows.args_nil ?_
  have I2 : Inv X pins σ H1 { s1 with heap := h', toks := tk } := I1.kept hk
  refine sorted_set R (I2.ok.hd hc) (by omega) fun s' p out c ms k g o hp hg hi hs hm hl => ?_
  have hlen : (ms.map V.int).length ≤ sizeLine := by rw [List.length_map, hl, sizeLine_eq]; omega
  have hn : H1 p = none := I2.hok.fresh hp
  have J : Inv X pins σ (upd H1 p (.lst (ms.map V.int))) { ({ s1 with heap := h', toks := tk } : Shared) with heap := s'.heap, gens := s'.gens, drawn := s'.drawn, toks := s'.toks } :=
    I2.call (ch := []) (Un.laid k hp hn) (I2.hok.laid k hp ⟨hlen, out.toList, c, vals_of_ints hi, hg⟩) (by rw [g]; exact I2.bare) (fun _ z => nomatch z)
  have e : s' = { ({ s1 with heap := h', toks := tk } : Shared) with heap := s'.heap, gens := s'.gens, drawn := s'.drawn, toks := s'.toks } := by
    cases s'
    cases s1
    cases o
    rfl
  rw [e]
  exact ⟨.ref p, _, J, rfl, (q1 ms hs (fun k => (hm k).trans decide_eq_true_iff)).of p hn⟩
instance {K : PySem.W.Frag} {te : TE} {σ : L2.St} {H : Hp} {Q : VK} : Rd (tSortS K te σ H Q) (te σ H (kSortS K Q)) := ⟨fun h => h⟩
theorem rd_sortS {K : PySem.W.Frag} {H : Hp} {Q : VK} {p : Addr} {xs : List V} {ns : List Int} [o : OB H p (.lst xs)] [e : ILs xs ns] (h64 : ns.length < 64) (asc : ns.Pairwise (· < ·)) (q : kNew Q (.lst (ns.map V.int)) H) : kSortS K Q (.ref p) H :=
  ⟨p, ns, rfl, ob_ints e o, h64, fun ms h1 h2 => by rw [asc_eq ms ns h1 asc h2]; exact q⟩
local macro_rules | `(tactic| walk_at "in") => `(tactic| first | assumption | infer_instance)
local macro_rules | `(tactic| walk_at "bd") => `(tactic| first
  | assumption
  | exact bd_s (by omega)
  | exact bd_lt (k := 600) (by omega))
local macro_rules | `(tactic| walk_at "side") => `(tactic| first
  | assumption
  | (show (0 : Int) < _; omega)
  | ((with_reducible refine mulw ?h ?g); (case h => walk_at "bd"); (case g => walk_at "bd"))
  | exact divw (by omega) (by omega))
local macro_rules | `(tactic| walk_at "s1") => `(tactic| first
  | with_reducible refine rdx ?_
  | ((with_reducible refine rd_kMk ?_); intro _ _ _ _ _ _)
  | intro _ _ _ _ _
  | ((with_reducible refine rd_I ?h ?_); (case h => walk_at "side"))
  | ((with_reducible refine rd_kTup ?_ ?h); (case h => simp))
  | ((with_reducible refine rd_kLst ?_ ?h); (case h => simp))
  | with_reducible refine rd_kRev ?_
  | ((with_reducible refine' rd_var ?h ?_); (case h => exact rfl))
  | ((with_reducible refine' rd_mt2 ?h ?_); (case h => exact rfl))
  | with_reducible refine rd_gname ?_
  | with_reducible refine rd_kPar ?_
  | with_reducible refine rd_kPar3 ?_
  | ((with_reducible refine' rd_ixT ?h ?_); (case h => exact rfl))
  | ((with_reducible refine' rd_ixL ?h ?_); (case h => exact rfl))
  | ((with_reducible refine rd_powL ?h ?g ?_); (case h => exact rfl); (case g => exact rfl))
  | ((with_reducible refine rd_shlL ?h ?g ?_); (case h => exact rfl); (case g => exact rfl))
  | ((with_reducible refine' rd_gtup ?h ?_); (case h => exact rfl))
  | ((with_reducible refine rd_appendI ?h ?_); (case h => omega); intro _ _ _)
  | ((with_reducible refine rd_append ?h ?_); (case h => first | omega | (simp; done) | (simp; omega)); intro _ _ _)
  | ((with_reducible refine rd_kSF ?h ?_); (case h => (simp only [List.length_cons, List.length_nil]; omega)); intro _ _ _)
  | ((with_reducible refine rd_strL ?h ?g ?_); (case h => simp); (case g => first | (with_reducible refine str_two ?_ ?_ <;> omega) | exact str_one (by omega)))
  | ((with_reducible refine rd_strI ?h ?_); (case h => omega))
  | ((with_reducible refine rd_listS ?h ?_); (case h => assumption))
  | with_reducible refine rd_list ?_
  | with_reducible refine rd_slL ?_
  | ((with_reducible refine rd_rep ?h ?g ?_); (case h => omega); (case g => first | (simp; done) | (simp; omega)))
  | ((with_reducible refine rd_cat ?h ?_); (case h => first | (simp; done) | (simp; omega) | omega))
  | ((with_reducible refine rd_reverse ?_); intro _ _ _)
  | ((with_reducible refine rd_clear ?_); intro _ _ _)
  | ((with_reducible refine rd_extend ?h ?_); (case h => first | omega | (simp; omega)); intro _ _ _)
  | ((with_reducible refine rd_kR1 ?h ?_); (case h => omega))
  | ((with_reducible refine rd_kR2 ?h ?_); (case h => omega))
  | ((with_reducible refine rd_wipe ?h ?_); (case h => exact rfl))
  | ((with_reducible refine rd_nF ?h ?_); (case h => first | with_reducible exact rfl | with_reducible exact decide_eq_true rfl | with_reducible exact decide_eq_true ⟨rfl, rfl⟩ | with_reducible exact all_mt | exact decide_eq_true (by omega) | exact decide_eq_true (by simp only [List.length_cons, List.length_nil]; omega)))
  | ((with_reducible refine rd_nT ?h ?_); (case h => first | with_reducible exact rfl | with_reducible exact ref_non | with_reducible exact int_non | with_reducible exact ne_selfD | exact decide_eq_false (by omega) | exact decide_eq_false (by simp only [List.length_cons, List.length_nil]; omega)))
  | ((with_reducible refine rd_T ?h ?_); (case h => first | with_reducible exact rfl | with_reducible exact decide_eq_true rfl | with_reducible exact decide_eq_true ⟨rfl, rfl⟩ | with_reducible exact all_mt | exact decide_eq_true (by omega) | exact decide_eq_true (by simp only [List.length_cons, List.length_nil]; omega)))
  | ((with_reducible refine rd_F ?h ?_); (case h => first | with_reducible exact rfl | with_reducible exact ref_non | with_reducible exact int_non | with_reducible exact ne_selfD | exact decide_eq_false (by omega) | exact decide_eq_false (by simp only [List.length_cons, List.length_nil]; omega))))
local macro_rules | `(tactic| walk_at "go") => `(tactic| repeat walk_at "s1")
/-! ### the mathematics -/
structure GB (a b : Int) : Prop where
  a2 : 2 ≤ a
  a60 : a ≤ 60
  b1 : 1 ≤ b
  ba : b < a
  g : Int.gcd a b = 1
theorem GB.ok {a b : Int} (g : GB a b) : 2 ≤ a ∧ a ≤ 60 ∧ 1 ≤ b ∧ b < a := ⟨g.a2, g.a60, g.b1, g.ba⟩
theorem div_lt' {a b n : Int} (hb : 1 ≤ b) (ha : b < a) (hn : 0 < n) : b * n / a < n := by
  apply Int.ediv_lt_of_lt_mul (by omega)
  have : b * n < a * n := Int.mul_lt_mul_of_pos_right ha hn
  rw [Int.mul_comm n a]; exact this
theorem div_nn {a b n : Int} (hb : 1 ≤ b) (ha : b < a) (hn : 0 ≤ n) : 0 ≤ b * n / a := Int.ediv_nonneg (Int.mul_nonneg (by omega) hn) (by omega)
/-- the row of a number -/
def rowN (a b : Int) : Nat → Int → List Int
  | 0, _ => []
  | k + 1, n => if 0 < n then rowN a b k (b * n / a) ++ [b * n % a] else []
def row (a b n : Int) : List Int := rowN a b n.toNat n
theorem rowN_any {a b : Int} (hb : 1 ≤ b) (ha : b < a) : ∀ (k j : Nat) (n : Int), n ≤ k → n ≤ j → rowN a b k n = rowN a b j n
  | 0, 0, _, _, _ => rfl
  | 0, j + 1, n, h, _ => by
    have : ¬ 0 < n := by omega
    simp [rowN, this]
  | k + 1, 0, n, _, h => by
    have : ¬ 0 < n := by omega
    simp [rowN, this]
  | k + 1, j + 1, n, h1, h2 => by
    unfold rowN
    by_cases h : 0 < n
    · have := div_lt' hb ha h
      rw [if_pos h, if_pos h, rowN_any hb ha k j _ (by omega) (by omega)]
    · rw [if_neg h, if_neg h]
theorem row_nil {a b n : Int} (h : n ≤ 0) : row a b n = [] := by
  have e : n.toNat = 0 := by omega
  unfold row
  rw [e]
  rfl
theorem row_step {a b n : Int} (hb : 1 ≤ b) (ha : b < a) (h : 0 < n) : row a b n = row a b (b * n / a) ++ [b * n % a] := by
  unfold row
  obtain ⟨k, e⟩ : ∃ k, n.toNat = k + 1 := ⟨n.toNat - 1, by omega⟩
  have := div_lt' hb ha h
  rw [e]
  show (if 0 < n then rowN a b k (b * n / a) ++ [b * n % a] else []) = _
  rw [if_pos h, rowN_any hb ha k (b * n / a).toNat _ (by omega) (by omega)]
theorem row_len_step {a b n : Int} (hb : 1 ≤ b) (ha : b < a) (h : 0 < n) : (row a b n).length = (row a b (b * n / a)).length + 1 := by
  rw [row_step hb ha h, List.length_append]
  rfl
/-- by strong descent -/
theorem row_ind {a b : Int} (hb : 1 ≤ b) (ha : b < a) {P : Int → Prop} (h0 : P 0) (hs : ∀ n, 0 < n → P (b * n / a) → P n) : ∀ n, 0 ≤ n → P n := by
  intro n hn
  obtain ⟨k, hk⟩ : ∃ k : Nat, n ≤ k := ⟨n.toNat, by omega⟩
  induction k generalizing n with
  | zero =>
    have : n = 0 := by omega
    subst this
    exact h0
  | succ k ih =>
    by_cases h : 0 < n
    · have := div_lt' hb ha h
      exact hs n h (ih _ (div_nn hb ha hn) (by omega))
    · have : n = 0 := by omega
      subst this
      exact h0
theorem row_len_le {a b : Int} (hb : 1 ≤ b) (ha : b < a) : ∀ n, 0 ≤ n → ((row a b n).length : Int) ≤ n := by
  refine row_ind hb ha (by rw [row_nil (by omega)]; simp) fun n h ih => ?_
  have := div_lt' hb ha h
  rw [row_len_step hb ha h]
  omega
/-- short rows where b is well below a -/
theorem row_len_short {a b : Int} (hb : 1 ≤ b) (ha : b < a) (h9 : 10 * b ≤ 9 * a) : ∀ (k : Nat) (n : Int), 0 ≤ n → n * 9 ^ k < 10 ^ k → (row a b n).length ≤ k
  | 0, n, h0, h => by
    have : n = 0 := by simp at h; omega
    subst this
    rw [row_nil (by omega)]
    simp
  | k + 1, n, h0, h => by
    by_cases hn : 0 < n
    · rw [row_len_step hb ha hn]
      have e1 : 10 * (b * n / a) ≤ 9 * n := by
        have h1 : a * (b * n / a) ≤ b * n := Int.mul_ediv_self_le (by omega)
        have h2 : 10 * b * n ≤ 9 * a * n := Int.mul_le_mul_of_nonneg_right h9 h0
        have h3 : a * (10 * (b * n / a)) ≤ a * (9 * n) := by
          have := Int.mul_le_mul_of_nonneg_left h1 (show (0 : Int) ≤ 10 by omega)
          calc a * (10 * (b * n / a)) = 10 * (a * (b * n / a)) := by rw [Int.mul_left_comm]
            _ ≤ 10 * (b * n) := this
            _ = 10 * b * n := by rw [Int.mul_assoc]
            _ ≤ 9 * a * n := h2
            _ = a * (9 * n) := by rw [Int.mul_comm 9 a, Int.mul_assoc]
        exact Int.le_of_mul_le_mul_left h3 (by omega)
      have e2 : b * n / a * 9 ^ k < 10 ^ k := by
        have p9 : (0 : Int) < 9 ^ k := Int.pow_pos (by omega)
        have h4 : 10 * (b * n / a) * 9 ^ k ≤ 9 * n * 9 ^ k := Int.mul_le_mul_of_nonneg_right e1 (Int.le_of_lt p9)
        rw [Int.pow_succ, Int.pow_succ] at h
        have h5 : 9 * n * 9 ^ k = n * (9 ^ k * 9) := by
          rw [Int.mul_comm 9 n, Int.mul_assoc, Int.mul_comm (9 ^ k) 9]
        have h6 : 10 * (b * n / a) * 9 ^ k = 10 * (b * n / a * 9 ^ k) := by rw [Int.mul_assoc]
        omega
      have l := row_len_short hb ha h9 k _ (div_nn hb ha h0) e2
      omega
    · rw [row_nil (by omega)]
      simp
/-- a drawn number of moderate size -/
def Great (a b n : Int) : Prop := 0 ≤ n ∧ n < 10 ^ 40 ∧ (10 * (a - b) < a → n < 1000)
theorem row_great {a b n : Int} (g : GB a b) (h0 : 0 ≤ n) (h1 : n < 10 ^ 42) (h2 : 10 * (a - b) < a → n < 2000) : (row a b n).length ≤ 2000 := by
  have := g.ok
  by_cases h : 10 * (a - b) < a
  · have l := row_len_le g.b1 g.ba n h0
    have := h2 h
    omega
  · have l := row_len_short g.b1 g.ba (by omega) 950 n h0 (by
      have e : (10 : Int) ^ 42 * 9 ^ 950 < 10 ^ 950 := by decide +kernel
      have : n * 9 ^ 950 ≤ 10 ^ 42 * 9 ^ 950 := Int.mul_le_mul_of_nonneg_right (by omega) (by decide +kernel)
      omega)
    omega
theorem rg8 {j : Int} (h1 : 1 ≤ j) (h8 : j ≤ 8) : ∃ n : Nat, n ≤ 2 ∧ RgC 0 j 4 n := by
  have h : j = 1 ∨ j = 2 ∨ j = 3 ∨ j = 4 ∨ j = 5 ∨ j = 6 ∨ j = 7 ∨ j = 8 := by omega
  rcases h with rfl | rfl | rfl | rfl | rfl | rfl | rfl | rfl
  · exact ⟨1, by decide, by decide, by decide, by decide, by decide⟩
  · exact ⟨1, by decide, by decide, by decide, by decide, by decide⟩
  · exact ⟨1, by decide, by decide, by decide, by decide, by decide⟩
  · exact ⟨1, by decide, by decide, by decide, by decide, by decide⟩
  · exact ⟨2, by decide, by decide, by decide, by decide, by decide⟩
  · exact ⟨2, by decide, by decide, by decide, by decide, by decide⟩
  · exact ⟨2, by decide, by decide, by decide, by decide, by decide⟩
  · exact ⟨2, by decide, by decide, by decide, by decide, by decide⟩
/-- all are figures -/
def figs (a : Int) (ns : List Int) : Bool := ns.all fun n => decide (0 ≤ n) && decide (n < a)
theorem figs_mem {a : Int} {ns : List Int} (h : figs a ns = true) {x : Int} (hx : x ∈ ns) : 0 ≤ x ∧ x < a := by
  have := List.all_eq_true.mp h x hx
  simpa using this
theorem figs_get {a : Int} {ns : List Int} (h : figs a ns = true) {i : Nat} (hi : i < ns.length) : 0 ≤ ns[i] ∧ ns[i] < a := figs_mem h (List.getElem_mem hi)
theorem figs_of {a : Int} {ns : List Int} (h : ∀ x ∈ ns, 0 ≤ x ∧ x < a) : figs a ns = true := List.all_eq_true.mpr fun x hx => by simpa using h x hx
def top (i : Nat) : Stmt := PySem.Challenge.pw_brokenbase_k14_whole_tree.main.body.getD i (.Pass ⟨0, 0, 0, 0⟩)
abbrev s_is_whole : Stmt := top 7
abbrev s_common : Stmt := top 8
abbrev s_check_base : Stmt := top 9
abbrev s_check_number : Stmt := top 10
abbrev s_parted : Stmt := top 11
abbrev s_least_below : Stmt := top 12
abbrev s_greatest_below : Stmt := top 13
abbrev s_shorter : Stmt := top 15
abbrev s_next_of : Stmt := top 16
abbrev s_row_of : Stmt := top 19
abbrev s_written : Stmt := top 20
abbrev s_law_cell_at : Stmt := top 22
abbrev s_law_draw : Stmt := top 23
abbrev s_law_number : Stmt := top 24
abbrev s_law_common : Stmt := top 25
abbrev s_law_base : Stmt := top 26
abbrev s_law_great : Stmt := top 27
abbrev s_law_whole : Stmt := top 28
abbrev s_law_right : Stmt := top 29
abbrev s_law : Stmt := top 30
/-- what the top has written -/
structure Top (K : PySem.W.Frag) (mg : Str → Option Value) (c : Nat → Addr) : Prop where
  f_is_whole : Fn0 K mg "is_whole" ["thing"] s_is_whole
  f_common : Fn0 K mg "common" ["one", "other"] s_common
  f_check_base : Fn0 K mg "check_base" ["base"] s_check_base
  f_check_number : Fn0 K mg "check_number" ["number", "least"] s_check_number
  f_parted : Fn0 K mg "parted" ["base", "number"] s_parted
  f_least_below : Fn0 K mg "least_below" ["base", "number"] s_least_below
  f_greatest_below : Fn0 K mg "greatest_below" ["base", "number"] s_greatest_below
  f_shorter : Fn0 K mg "shorter" ["base", "number"] s_shorter
  f_next_of : Fn0 K mg "next_of" ["base", "number"] s_next_of
  f_row_of : Fn0 K mg "row_of" ["base", "number"] s_row_of
  f_written : Fn0 K mg "written" ["base", "number"] s_written
  f_law_cell_at : Fn0 K mg "_law_cell_at" ["_law_script", "_law_k"] s_law_cell_at
  f_law_draw : Fn0 K mg "_law_draw" ["_law_cell", "_law_k", "_law_most"] s_law_draw
  f_law_number : Fn0 K mg "_law_number" ["_law_cell", "_law_k", "_law_limit"] s_law_number
  f_law_common : Fn0 K mg "_law_common" ["_law_one", "_law_other"] s_law_common
  f_law_base : Fn0 K mg "_law_base" ["_law_script", "_law_by"] s_law_base
  f_law_great : Fn0 K mg "_law_great" ["_law_script", "_law_by", "_law_base_here"] s_law_great
  f_law_whole : Fn0 K mg "_law_whole" ["_law_found"] s_law_whole
  f_law_right : Fn0 K mg "_law_right" ["_law_base_here", "_law_number_here"] s_law_right
  n_isinstance : mg "isinstance" = none
  n_int : mg "int" = none
  n_bool : mg "bool" = none
  n_tuple : mg "tuple" = none
  n_list : mg "list" = none
  n_len : mg "len" = none
  n_all : mg "all" = none
  n_max : mg "max" = none
  n_min : mg "min" = none
  n_range : mg "range" = none
  n_sorted : mg "sorted" = none
  n_set : mg "set" = none
  n_str : mg "str" = none
  c_GREATEST : ∃ t, mg "GREATEST" = some (.int 60 t)
  c_MOST : ∃ t, mg "MOST" = some (.int 2000 t)
def spLaw (K : PySem.W.Frag) : Sp := fun vs H Q _ => ∃ (a : Addr) (ns : List Int), vs = [.ref a] ∧ IR K H a ns ∧ ns.length ≤ 63 ∧ ∀ H', Q (.bl true) H'
/-! ### rows read, beginnings -/
theorem row_len_ratio {a b p q : Int} (hb : 1 ≤ b) (ha : b < a) (hp : 0 < p) (hq : 0 < q) (h9 : q * b ≤ p * a) : ∀ (k : Nat) (n : Int), 0 ≤ n → n * p ^ k < q ^ k → (row a b n).length ≤ k
  | 0, n, h0, h => by
    have : n = 0 := by simp at h; omega
    subst this
    rw [row_nil (by omega)]
    simp
  | k + 1, n, h0, h => by
    by_cases hn : 0 < n
    · rw [row_len_step hb ha hn]
      have e1 : q * (b * n / a) ≤ p * n := by
        have h1 : a * (b * n / a) ≤ b * n := Int.mul_ediv_self_le (by omega)
        have h2 : q * b * n ≤ p * a * n := Int.mul_le_mul_of_nonneg_right h9 h0
        have h3 : a * (q * (b * n / a)) ≤ a * (p * n) := by
          have := Int.mul_le_mul_of_nonneg_left h1 (show (0 : Int) ≤ q by omega)
          calc a * (q * (b * n / a)) = q * (a * (b * n / a)) := by rw [Int.mul_left_comm]
            _ ≤ q * (b * n) := this
            _ = q * b * n := by rw [Int.mul_assoc]
            _ ≤ p * a * n := h2
            _ = a * (p * n) := by rw [Int.mul_comm p a, Int.mul_assoc]
        exact Int.le_of_mul_le_mul_left h3 (by omega)
      have e2 : b * n / a * p ^ k < q ^ k := by
        have pp : (0 : Int) < p ^ k := Int.pow_pos hp
        have h4 : q * (b * n / a) * p ^ k ≤ p * n * p ^ k := Int.mul_le_mul_of_nonneg_right e1 (Int.le_of_lt pp)
        rw [Int.pow_succ, Int.pow_succ] at h
        have h5 : p * n * p ^ k = n * (p ^ k * p) := by
          rw [Int.mul_comm p n, Int.mul_assoc, Int.mul_comm (p ^ k) p]
        have h6 : q * (b * n / a) * p ^ k = b * n / a * p ^ k * q := by rw [Int.mul_assoc, Int.mul_comm q]
        have h7 : b * n / a * p ^ k * q < q ^ k * q := by omega
        exact Int.lt_of_mul_lt_mul_right h7 (by omega)
      have := row_len_ratio hb ha hp hq h9 k _ (div_nn hb ha h0) e2
      omega
    · rw [row_nil (by omega)]
      simp
theorem row_len_any {a b n : Int} (g : GB a b) (h0 : 0 ≤ n) (h1 : n ≤ 10 ^ 61) : (row a b n).length ≤ 8500 := by
  have gg := g.ok
  refine row_len_ratio g.b1 g.ba (p := 59) (q := 60) (by decide) (by decide) (by omega) 8500 n h0 ?_
  have e : (10 : Int) ^ 61 * 59 ^ 8500 < 60 ^ 8500 := by decide +kernel
  have : n * 59 ^ 8500 ≤ 10 ^ 61 * 59 ^ 8500 := Int.mul_le_mul_of_nonneg_right h1 (by decide +kernel)
  omega
def rdo (a b : Int) : Int → List Int → Option Int
  | x, [] => some x
  | x, f :: r => if (a * x + f) % b = 0 then rdo a b ((a * x + f) / b) r else none
theorem rdo_append (a b : Int) : ∀ (l : List Int) (x : Int) (r : List Int), rdo a b x (l ++ r) = (rdo a b x l).bind fun y => rdo a b y r
  | [], x, r => rfl
  | f :: l, x, r => by
    show (if (a * x + f) % b = 0 then rdo a b ((a * x + f) / b) (l ++ r) else none) = (if (a * x + f) % b = 0 then rdo a b ((a * x + f) / b) l else none).bind fun y => rdo a b y r
    by_cases h : (a * x + f) % b = 0
    · rw [if_pos h, if_pos h, rdo_append a b l]
    · rw [if_neg h, if_neg h]; rfl
theorem rdo_row {a b : Int} (hb : 1 ≤ b) (ha : b < a) : ∀ n, 0 ≤ n → rdo a b 0 (row a b n) = some n := by
  refine row_ind hb ha (by rw [row_nil (Int.le_refl 0)]; rfl) fun n h ih => ?_
  rw [row_step hb ha h, rdo_append, ih]
  have e := Int.mul_ediv_add_emod (b * n) a
  show (if (a * (b * n / a) + b * n % a) % b = 0 then rdo a b ((a * (b * n / a) + b * n % a) / b) [] else none) = some n
  rw [e, if_pos (Int.mul_emod_right b n), Int.mul_ediv_cancel_left n (by omega)]
  rfl
theorem row_inj {a b x y : Int} (hb : 1 ≤ b) (ha : b < a) (hx : 0 ≤ x) (hy : 0 ≤ y) (h : row a b x = row a b y) : x = y := by
  have h1 := rdo_row hb ha x hx
  rw [h, rdo_row hb ha y hy] at h1
  exact (Option.some.inj h1).symm
/-- the number and -1, or what is left and where -/
def readF (a b : Int) : Int → Int → List Int → Int × Int
  | x, _, [] => (x, -1)
  | x, p, f :: r => if (a * x + f) % b = 0 then readF a b ((a * x + f) / b) (p + 1) r else ((a * x + f) % b, p)
theorem readF_cons {a b x p f : Int} {r : List Int} : readF a b x p (f :: r) = if (a * x + f) % b = 0 then readF a b ((a * x + f) / b) (p + 1) r else ((a * x + f) % b, p) := rfl
theorem div_abs {t b : Int} (hb : 1 ≤ b) : (t / b).natAbs ≤ t.natAbs := by
  have e := Int.mul_ediv_add_emod t b
  have r0 := Int.emod_nonneg t (show b ≠ 0 by omega)
  have r1 := Int.emod_lt_of_pos t (show 0 < b by omega)
  generalize t / b = q at e ⊢
  rcases Int.lt_or_le q 0 with h | h
  · have : b * (q + 1) ≤ 1 * (q + 1) := Int.mul_le_mul_of_nonpos_right hb (by omega)
    rw [Int.mul_add] at this
    omega
  · have : 1 * q ≤ b * q := Int.mul_le_mul_of_nonneg_right hb h
    omega
theorem readF_ok {a b : Int} : ∀ (l : List Int) (x y p : Int), rdo a b x l = some y → readF a b x p l = (y, -1)
  | [], x, y, p, h => by
    have : x = y := Option.some.inj h
    rw [this]; rfl
  | f :: l, x, y, p, h => by
    unfold rdo at h
    unfold readF
    by_cases z : (a * x + f) % b = 0
    · rw [if_pos z] at h ⊢
      exact readF_ok l _ y _ h
    · rw [if_neg z] at h
      cases h
theorem readF_bad {a b : Int} : ∀ (l : List Int) (x p : Int), 0 ≤ p → rdo a b x l = none → 0 ≤ (readF a b x p l).2
  | [], x, p, _, h => by cases h
  | f :: l, x, p, hp, h => by
    unfold rdo at h
    unfold readF
    by_cases z : (a * x + f) % b = 0
    · rw [if_pos z] at h ⊢
      exact readF_bad l _ _ (by omega) h
    · rw [if_neg z]
      exact hp
def wayN (a b : Int) : Nat → Int → List Int
  | 0, n => [n]
  | k + 1, n => if 0 < n then wayN a b k (b * n / a) ++ [n] else [n]
def ways (a b n : Int) : List Int := wayN a b n.toNat n
theorem wayN_any {a b : Int} (hb : 1 ≤ b) (ha : b < a) : ∀ (k j : Nat) (n : Int), n ≤ k → n ≤ j → wayN a b k n = wayN a b j n
  | 0, 0, _, _, _ => rfl
  | 0, j + 1, n, h, _ => by
    have : ¬ 0 < n := by omega
    simp [wayN, this]
  | k + 1, 0, n, _, h => by
    have : ¬ 0 < n := by omega
    simp [wayN, this]
  | k + 1, j + 1, n, h1, h2 => by
    unfold wayN
    by_cases h : 0 < n
    · have := div_lt' hb ha h
      rw [if_pos h, if_pos h, wayN_any hb ha k j _ (by omega) (by omega)]
    · rw [if_neg h, if_neg h]
theorem ways_zero {a b : Int} : ways a b 0 = [0] := rfl
theorem ways_step {a b n : Int} (hb : 1 ≤ b) (ha : b < a) (h : 0 < n) : ways a b n = ways a b (b * n / a) ++ [n] := by
  unfold ways
  obtain ⟨k, e⟩ : ∃ k, n.toNat = k + 1 := ⟨n.toNat - 1, by omega⟩
  have := div_lt' hb ha h
  rw [e]
  show (if 0 < n then wayN a b k (b * n / a) ++ [n] else [n]) = _
  rw [if_pos h, wayN_any hb ha k (b * n / a).toNat _ (by omega) (by omega)]
theorem ways_len {a b : Int} (hb : 1 ≤ b) (ha : b < a) : ∀ n, 0 ≤ n → (ways a b n).length = (row a b n).length + 1 := by
  refine row_ind hb ha (by rw [row_nil (Int.le_refl 0)]; rfl) fun n h ih => ?_
  rw [ways_step hb ha h, row_len_step hb ha h, List.length_append, ih]
  rfl
theorem ways_at {a b : Int} (hb : 1 ≤ b) (ha : b < a) : ∀ n, 0 ≤ n → ∀ k, k ≤ (row a b n).length → ∃ u, (ways a b n)[k]? = some u ∧ 0 ≤ u ∧ u ≤ n ∧ row a b u = (row a b n).take k := by
  refine row_ind hb ha (fun k hk => ?_) fun n h ih k hk => ?_
  · rw [row_nil (Int.le_refl 0)] at hk
    have : k = 0 := by simpa using hk
    subst this
    exact ⟨0, rfl, Int.le_refl 0, Int.le_refl 0, by rw [row_nil (Int.le_refl 0)]; rfl⟩
  · have l := div_lt' hb ha h
    have hl := ways_len hb ha _ (div_nn hb ha (show 0 ≤ n by omega))
    rw [row_len_step hb ha h] at hk
    rw [ways_step hb ha h]
    by_cases e : k ≤ (row a b (b * n / a)).length
    · obtain ⟨u, h1, h2, h3, h4⟩ := ih k e
      refine ⟨u, ?_, h2, by omega, ?_⟩
      · rw [List.getElem?_append_left (by omega)]; exact h1
      · rw [h4, row_step hb ha h, List.take_append_of_le_length e]
    · have ek : k = (row a b (b * n / a)).length + 1 := by omega
      subst ek
      refine ⟨n, ?_, by omega, Int.le_refl n, ?_⟩
      · rw [List.getElem?_append_right (by omega), hl, Nat.sub_self]; rfl
      · rw [← row_len_step hb ha h, List.take_length]
/-- the longest common beginning of two lists -/
def cpl : List Int → List Int → Nat
  | x :: xs, y :: ys => if x = y then cpl xs ys + 1 else 0
  | _, _ => 0
theorem cpl_take : ∀ xs ys : List Int, xs.take (cpl xs ys) = ys.take (cpl xs ys)
  | [], [] => rfl
  | [], _ :: _ => rfl
  | _ :: _, [] => rfl
  | x :: xs, y :: ys => by
    unfold cpl
    by_cases h : x = y
    · rw [if_pos h, List.take_succ_cons, List.take_succ_cons, h, cpl_take xs ys]
    · rw [if_neg h]; rfl
theorem cpl_max : ∀ (xs ys : List Int) (k : Nat), k ≤ xs.length → k ≤ ys.length → xs.take k = ys.take k → k ≤ cpl xs ys
  | [], _, k, h, _, _ => by simp at h; omega
  | _ :: _, [], k, _, h, _ => by simp at h; omega
  | x :: xs, y :: ys, 0, _, _, _ => Nat.zero_le _
  | x :: xs, y :: ys, k + 1, h1, h2, h => by
    rw [List.take_succ_cons, List.take_succ_cons] at h
    injection h with e1 e2
    unfold cpl
    rw [if_pos e1]
    have := cpl_max xs ys k (by simpa using h1) (by simpa using h2) e2
    omega
theorem cpl_le : ∀ xs ys : List Int, cpl xs ys ≤ xs.length ∧ cpl xs ys ≤ ys.length
  | [], _ => by cases ‹List Int› <;> simp [cpl]
  | _ :: _, [] => by simp [cpl]
  | x :: xs, y :: ys => by
    have := cpl_le xs ys
    unfold cpl
    split
    · simp; omega
    · simp
/-- w is the number of the longest row with which both rows begin -/
def Mt (a b n m w : Int) : Prop := 0 ≤ w ∧ row a b w = (row a b n).take (cpl (row a b n) (row a b m))
theorem Mt.one {a b n m w u : Int} (hb : 1 ≤ b) (ha : b < a) (h : Mt a b n m w) (h' : Mt a b n m u) : w = u := row_inj hb ha h.1 h'.1 (h.2.trans h'.2.symm)
theorem cpl_comm : ∀ xs ys : List Int, cpl xs ys = cpl ys xs
  | [], [] => rfl
  | [], _ :: _ => rfl
  | _ :: _, [] => rfl
  | x :: xs, y :: ys => by
    unfold cpl
    by_cases h : x = y
    · rw [if_pos h, if_pos h.symm, cpl_comm xs ys]
    · rw [if_neg h, if_neg fun z => h z.symm]
theorem Mt.symm {a b n m w : Int} (h : Mt a b n m w) : Mt a b m n w := by
  refine ⟨h.1, ?_⟩
  rw [h.2, cpl_comm (row a b m), ← cpl_take, cpl_comm]
/-- the loop of meet -/
def cmn : List Int → List Int → Int → Int
  | x :: xs, y :: ys, acc => if x = y then cmn xs ys x else acc
  | _, _, acc => acc
theorem cmn_cons {x y acc : Int} {xs ys : List Int} : cmn (x :: xs) (y :: ys) acc = if x = y then cmn xs ys x else acc := rfl
theorem cmn_at : ∀ (xs ys : List Int) (acc : Int) (k : Nat) (u : Int), xs.take (k + 1) = ys.take (k + 1) → xs[k]? = some u → (∀ v, xs[k + 1]? = some v → ys[k + 1]? ≠ some v) → cmn xs ys acc = u
  | [], _, _, _, _, _, h, _ => by simp at h
  | _ :: _, [], _, _, _, h, _, _ => by simp at h
  | x :: xs, y :: ys, acc, 0, u, h, h1, h2 => by
    rw [List.take_succ_cons, List.take_succ_cons] at h
    injection h with e1 e2
    unfold cmn
    rw [if_pos e1]
    have eu : x = u := Option.some.inj h1
    rw [← eu]
    match xs, ys, h2 with
    | [], ys, _ => cases ys <;> rfl
    | _ :: _, [], _ => rfl
    | v :: _, w :: _, h2 =>
      unfold cmn
      rw [if_neg]
      intro e
      exact h2 v rfl (by rw [e]; rfl)
  | x :: xs, y :: ys, acc, k + 1, u, h, h1, h2 => by
    rw [List.take_succ_cons, List.take_succ_cons] at h
    injection h with e1 e2
    unfold cmn
    rw [if_pos e1]
    exact cmn_at xs ys x k u e2 h1 h2
theorem take_ext {xs ys : List Int} : ∀ {k : Nat}, (∀ i, i < k → xs[i]? = ys[i]?) → xs.take k = ys.take k := fun {k} h => by
  apply List.ext_getElem?
  intro i
  by_cases hi : i < k
  · rw [List.getElem?_take_of_lt hi, List.getElem?_take_of_lt hi, h i hi]
  · rw [List.getElem?_take_eq_none (by omega), List.getElem?_take_eq_none (by omega)]
theorem meet_ok {a b n m : Int} (hb : 1 ≤ b) (ha : b < a) (hn : 0 ≤ n) (hm : 0 ≤ m) : Mt a b n m (cmn (ways a b n) (ways a b m) 0) := by
  have hc := cpl_le (row a b n) (row a b m)
  have ln := ways_len hb ha n hn
  have lm := ways_len hb ha m hm
  -- alike at i just if the beginnings of that length are
  have key : ∀ i, i ≤ (row a b n).length → i ≤ (row a b m).length → ((ways a b n)[i]? = (ways a b m)[i]? ↔ (row a b n).take i = (row a b m).take i) := by
    intro i h1 h2
    obtain ⟨u, e1, u0, _, r1⟩ := ways_at hb ha n hn i h1
    obtain ⟨v, e2, v0, _, r2⟩ := ways_at hb ha m hm i h2
    rw [e1, e2]
    constructor
    · intro h
      rw [← r1, ← r2, Option.some.inj h]
    · intro h
      rw [row_inj hb ha u0 v0 (r1.trans (h.trans r2.symm))]
  obtain ⟨w, e, w0, _, r⟩ := ways_at hb ha n hn _ hc.1
  have : cmn (ways a b n) (ways a b m) 0 = w := by
    refine cmn_at _ _ _ _ _ (take_ext fun i hi => (key i (by omega) (by omega)).mpr ?_) e fun v hv hv2 => ?_
    · have := congrArg (List.take i) (cpl_take (row a b n) (row a b m))
      rw [List.take_take, List.take_take, Nat.min_eq_left (by omega)] at this
      exact this
    · have l1 := (List.getElem?_eq_some_iff.mp hv).1
      have l2 := (List.getElem?_eq_some_iff.mp hv2).1
      have := cpl_max _ _ _ (by omega) (by omega) ((key _ (by omega) (by omega)).mp (hv.trans hv2.symm))
      omega
  rw [this]
  exact ⟨w0, r⟩
/-- the greater one may be put back by a step -/
theorem Mt.up {a b n m w : Int} (hb : 1 ≤ b) (ha : b < a) (hn : 0 ≤ n) (h : n < m) : Mt a b n m w ↔ Mt a b n (b * m / a) w := by
  have hm : 0 < m := by omega
  have e : cpl (row a b n) (row a b m) = cpl (row a b n) (row a b (b * m / a)) := by
    have c1 := cpl_le (row a b n) (row a b m)
    have c2 := cpl_le (row a b n) (row a b (b * m / a))
    have st := row_step hb ha hm
    refine Nat.le_antisymm ?_ ?_
    · refine cpl_max _ _ _ c1.1 ?_ ?_
      · rcases Nat.lt_or_ge (row a b (b * m / a)).length (cpl (row a b n) (row a b m)) with z | z
        · exfalso
          rw [row_len_step hb ha hm] at c1
          have e1 : cpl (row a b n) (row a b m) = (row a b m).length := by rw [row_len_step hb ha hm]; omega
          have e2 := cpl_take (row a b n) (row a b m)
          rw [e1, List.take_length] at e2
          -- the row of m is a beginning of the row of n, so m is no greater
          obtain ⟨u, _, u0, un, ur⟩ := ways_at hb ha n hn (row a b m).length (by omega)
          have := row_inj hb ha u0 (by omega) (ur.trans e2)
          omega
        · exact z
      · rcases Nat.lt_or_ge (row a b (b * m / a)).length (cpl (row a b n) (row a b m)) with z | z
        · exfalso
          rw [row_len_step hb ha hm] at c1
          have e1 : cpl (row a b n) (row a b m) = (row a b m).length := by rw [row_len_step hb ha hm]; omega
          have e2 := cpl_take (row a b n) (row a b m)
          rw [e1, List.take_length] at e2
          obtain ⟨u, _, u0, un, ur⟩ := ways_at hb ha n hn (row a b m).length (by omega)
          have := row_inj hb ha u0 (by omega) (ur.trans e2)
          omega
        · rw [cpl_take (row a b n) (row a b m)]
          generalize cpl (row a b n) (row a b m) = c at z ⊢
          rw [st, List.take_append_of_le_length z]
    · refine cpl_max _ _ _ c2.1 (by rw [row_len_step hb ha hm]; omega) ?_
      rw [cpl_take (row a b n) (row a b (b * m / a)), st, List.take_append_of_le_length c2.2]
  unfold Mt
  rw [e]
theorem Mt.self {a b n : Int} (h : 0 ≤ n) : Mt a b n n n := by
  have : ∀ xs : List Int, cpl xs xs = xs.length := fun xs => by
    have h1 := cpl_max xs xs xs.length (Nat.le_refl _) (Nat.le_refl _) rfl
    have h2 := (cpl_le xs xs).1
    omega
  exact ⟨h, by rw [this, List.take_length]⟩
theorem at_end {fs : List Int} {x : Int} : atI ((fs ++ [x]).map V.int) (-1) = some (.int x) := by
  rw [List.map_append]
  simp only [atI, ixN, List.map_cons, List.map_nil, List.length_append, List.length_cons, List.length_nil]
  rw [if_neg (by decide), if_pos (by omega)]
  simp only [Option.bind_some]
  rw [List.getElem?_append_right (by omega)]
  have e : ((-1 : Int) + (((fs.map V.int).length + (0 + 1) : Nat) : Int)).toNat - (fs.map V.int).length = 0 := by omega
  rw [e]
  rfl
/-- least and greatest below, again and again -/
def loN (a b : Int) : Nat → Int → Int
  | 0, n => n
  | k + 1, n => -(-a * loN a b k n / b)
def hiN (a b : Int) : Nat → Int → Int
  | 0, n => n
  | k + 1, n => (a * hiN a b k n + a - 1) / b
theorem row_fig {a b : Int} (hb : 1 ≤ b) (ha : b < a) : ∀ n, 0 ≤ n → ∀ x ∈ row a b n, 0 ≤ x ∧ x < a := by
  refine row_ind hb ha (fun x hx => by rw [row_nil (Int.le_refl 0)] at hx; cases hx) fun n h ih x hx => ?_
  rw [row_step hb ha h] at hx
  rcases List.mem_append.mp hx with z | z
  · exact ih x z
  · rw [List.mem_singleton.mp z]
    exact ⟨Int.emod_nonneg _ (by omega), Int.emod_lt_of_pos _ (by omega)⟩
/-! ### bounds of what hangs below -/
theorem lohi_step {a b n : Int} (g : GB a b) : ∀ i : Nat, 1 ≤ n → 1 ≤ loN a b i n ∧ 1 ≤ hiN a b i n ∧ loN a b i n ≤ n * 128 ^ i ∧ hiN a b i n ≤ n * 128 ^ i
  | 0, h => by
    rw [Int.pow_zero]
    exact ⟨h, h, by show n ≤ _; omega, by show n ≤ _; omega⟩
  | i + 1, h => by
    have gg := g.ok
    obtain ⟨h1, h2, h3, h4⟩ := lohi_step g i h
    show 1 ≤ -(-a * loN a b i n / b) ∧ 1 ≤ (a * hiN a b i n + a - 1) / b ∧ -(-a * loN a b i n / b) ≤ _ ∧ (a * hiN a b i n + a - 1) / b ≤ _
    generalize loN a b i n = l at h1 h3 ⊢
    generalize hiN a b i n = u at h2 h4 ⊢
    have m1 : a * 1 ≤ a * l := Int.mul_le_mul_of_nonneg_left h1 (by omega)
    have m2 : a * l ≤ 60 * l := Int.mul_le_mul_of_nonneg_right gg.2.1 (by omega)
    have m3 : a * 1 ≤ a * u := Int.mul_le_mul_of_nonneg_left h2 (by omega)
    have m4 : a * u ≤ 60 * u := Int.mul_le_mul_of_nonneg_right gg.2.1 (by omega)
    have e := Int.neg_mul a l
    have d1 := Int.mul_ediv_add_emod (-a * l) b
    have d2 := Int.emod_nonneg (-a * l) (show b ≠ 0 by omega)
    have d3 := Int.emod_lt_of_pos (-a * l) (show 0 < b by omega)
    generalize -a * l / b = q at d1 ⊢
    have q1 : q ≤ -1 := by
      rcases Int.lt_or_le q 0 with z | z
      · omega
      · have := Int.mul_nonneg (show 0 ≤ b by omega) z
        omega
    have q2 : -q ≤ a * l + b := by
      have : b * q ≤ 1 * q := Int.mul_le_mul_of_nonpos_right (by omega) (by omega)
      omega
    refine ⟨by omega, ?_, ?_, ?_⟩
    · exact Int.le_ediv_of_mul_le (by omega) (by omega)
    · rw [Int.pow_succ, ← Int.mul_assoc]
      omega
    · have := Int.ediv_le_self (a := a * u + a - 1) b (by omega)
      rw [Int.pow_succ, ← Int.mul_assoc]
      omega
theorem lohi_bd {a b n : Int} (g : GB a b) (i : Nat) (h : 1 ≤ n) (hn : n < 2 ^ 10000) (hi : i ≤ 300) : Bd (loN a b i n) ∧ Bd (hiN a b i n) := by
  obtain ⟨h1, h2, h3, h4⟩ := lohi_step g i h
  have p : (128 : Int) ^ i ≤ 128 ^ 300 := by
    have := Nat.pow_le_pow_right (n := 128) (by decide) hi
    have e : ∀ k : Nat, ((128 ^ k : Nat) : Int) = 128 ^ k := fun k => by rw [Int.natCast_pow] <;> rfl
    rw [← e, ← e]
    exact Int.ofNat_le.mpr this
  have p0 : (0 : Int) < 128 ^ i := Int.pow_pos (by decide)
  have z1 : n * 128 ^ i ≤ 2 ^ 10000 * 128 ^ 300 := Int.mul_le_mul (by omega) p (by omega) (by decide +kernel)
  have z4 : (2 : Int) ^ 10000 * 128 ^ 300 < 2 ^ 15000 := by decide +kernel
  exact ⟨bd_lt (k := 15000) (by omega), bd_lt (k := 15000) (by omega)⟩
theorem hi0_step {a b : Int} (g : GB a b) : ∀ i : Nat, 0 ≤ hiN a b i 0 ∧ hiN a b i 0 ≤ 128 ^ i - 1
  | 0 => by rw [Int.pow_zero]; exact ⟨Int.le_refl 0, Int.le_refl 0⟩
  | i + 1 => by
    have gg := g.ok
    obtain ⟨h1, h2⟩ := hi0_step g i
    show 0 ≤ (a * hiN a b i 0 + a - 1) / b ∧ (a * hiN a b i 0 + a - 1) / b ≤ _
    generalize hiN a b i 0 = u at h1 h2 ⊢
    have m3 : 0 ≤ a * u := Int.mul_nonneg (by omega) h1
    have m4 : a * u ≤ 60 * u := Int.mul_le_mul_of_nonneg_right gg.2.1 (by omega)
    have p0 : (0 : Int) < 128 ^ i := Int.pow_pos (by decide)
    refine ⟨Int.ediv_nonneg (by omega) (by omega), ?_⟩
    have := Int.ediv_le_self (a := a * u + a - 1) b (by omega)
    rw [Int.pow_succ]
    omega
theorem hi0_bd {a b : Int} (g : GB a b) (i : Nat) (hi : i ≤ 300) : Bd (hiN a b i 0) := by
  obtain ⟨h1, h2⟩ := hi0_step g i
  have p : (128 : Int) ^ i ≤ 128 ^ 300 := by
    have := Nat.pow_le_pow_right (n := 128) (by decide) hi
    have e : ∀ k : Nat, ((128 ^ k : Nat) : Int) = 128 ^ k := fun k => by rw [Int.natCast_pow]; rfl
    rw [← e, ← e]
    exact Int.ofNat_le.mpr this
  have z4 : (128 : Int) ^ 300 < 2 ^ 15000 := by decide +kernel
  exact bd_lt (k := 15000) (by omega)
/-! ### lengths -/
theorem up_div {t b : Int} (hb : 1 ≤ b) : (t + b - 1) / b = -(-t / b) := by
  have d1 := Int.mul_ediv_add_emod (t + b - 1) b
  have d2 := Int.emod_nonneg (t + b - 1) (show b ≠ 0 by omega)
  have d3 := Int.emod_lt_of_pos (t + b - 1) (show 0 < b by omega)
  have e1 := Int.mul_ediv_add_emod (-t) b
  have e2 := Int.emod_nonneg (-t) (show b ≠ 0 by omega)
  have e3 := Int.emod_lt_of_pos (-t) (show 0 < b by omega)
  generalize (t + b - 1) / b = x at *
  generalize -t / b = y at *
  have h : b * (x + y) < b * 1 := by rw [Int.mul_add]; omega
  have h2 : b * (-1) < b * (x + y) := by rw [Int.mul_add]; omega
  have h3 := Int.lt_of_mul_lt_mul_left h (by omega)
  have h4 := Int.lt_of_mul_lt_mul_left h2 (by omega)
  omega
theorem lo_pos {a b : Int} (g : GB a b) (k : Nat) : 1 ≤ loN a b k 1 := (lohi_step g k (Int.le_refl 1)).1
theorem lo_up {a b : Int} (g : GB a b) (k : Nat) : loN a b (k + 1) 1 = (a * loN a b k 1 + b - 1) / b := by
  rw [up_div g.b1]
  show -(-a * loN a b k 1 / b) = _
  rw [Int.neg_mul]
theorem lo_lt {a b : Int} (g : GB a b) (k : Nat) : loN a b k 1 < loN a b (k + 1) 1 := by
  have gg := g.ok
  have p := lo_pos g k
  rw [lo_up g]
  generalize loN a b k 1 = l at p ⊢
  have h : b * l + l ≤ a * l := by
    have := Int.mul_le_mul_of_nonneg_right (show b + 1 ≤ a by omega) (show 0 ≤ l by omega)
    rw [Int.add_mul, Int.one_mul] at this
    exact this
  have : l + 1 ≤ (a * l + b - 1) / b := Int.le_ediv_of_mul_le (by omega) (by rw [Int.add_mul, Int.one_mul, Int.mul_comm l b]; omega)
  omega
theorem hi_lo {a b : Int} (g : GB a b) : ∀ k : Nat, hiN a b k 0 + 1 = loN a b k 1
  | 0 => rfl
  | k + 1 => by
    have gg := g.ok
    have ih := hi_lo g k
    rw [lo_up g]
    show (a * hiN a b k 0 + a - 1) / b + 1 = _
    rw [← ih, Int.mul_add, Int.mul_one, show a * hiN a b k 0 + a + b - 1 = a * hiN a b k 0 + a - 1 + b * 1 by omega, Int.add_mul_ediv_left _ _ (by omega)]
theorem len_iff {a b : Int} (g : GB a b) : ∀ (k : Nat) (n : Int), 1 ≤ n → (loN a b k 1 ≤ n ↔ k + 1 ≤ (row a b n).length)
  | 0, n, h => by
    rw [row_len_step g.b1 g.ba (by omega)]
    show (1 : Int) ≤ n ↔ _
    constructor
    · intro _; omega
    · intro _; exact h
  | k + 1, n, h => by
    have gg := g.ok
    have p := lo_pos g k
    rw [row_len_step g.b1 g.ba (show 0 < n by omega)]
    have key : loN a b (k + 1) 1 ≤ n ↔ loN a b k 1 ≤ b * n / a := by
      rw [lo_up g, Int.le_ediv_iff_mul_le (show 0 < a by omega)]
      generalize loN a b k 1 = l
      constructor
      · intro z
        have h1 := Int.mul_le_mul_of_nonneg_left z (show 0 ≤ b by omega)
        have d1 := Int.mul_ediv_add_emod (a * l + b - 1) b
        have d3 := Int.emod_lt_of_pos (a * l + b - 1) (show 0 < b by omega)
        rw [Int.mul_comm l a]
        omega
      · intro z
        have : (a * l + b - 1) / b < n + 1 := Int.ediv_lt_of_lt_mul (by omega) (by rw [Int.add_mul, Int.one_mul, Int.mul_comm n b, ← Int.mul_comm l a]; omega)
        omega
    rw [key]
    have d0 := div_nn g.b1 g.ba (show 0 ≤ n by omega)
    rcases Int.lt_or_le 0 (b * n / a) with z | z
    · rw [len_iff g k _ (by omega)]
      omega
    · have e : b * n / a = 0 := by omega
      rw [e, row_nil (Int.le_refl 0)]
      constructor
      · intro w; omega
      · intro w; simp at w
theorem len_lo {a b : Int} (g : GB a b) (k : Nat) : (row a b (loN a b k 1)).length = k + 1 := by
  have h1 := (len_iff g k _ (lo_pos g k)).mp (Int.le_refl _)
  have h2 := len_iff g (k + 1) _ (lo_pos g k)
  have h3 := lo_lt g k
  have : ¬ k + 1 + 1 ≤ (row a b (loN a b k 1)).length := fun z => by have := h2.mpr z; omega
  omega
theorem len_below {a b : Int} (g : GB a b) (k : Nat) : (row a b (loN a b (k + 1) 1 - 1)).length = k + 1 := by
  have h3 := lo_lt g k
  have p := lo_pos g k
  have h1 := (len_iff g k (loN a b (k + 1) 1 - 1) (by omega)).mp (by omega)
  have h2 := len_iff g (k + 1) (loN a b (k + 1) 1 - 1) (by omega)
  have : ¬ k + 1 + 1 ≤ (row a b (loN a b (k + 1) 1 - 1)).length := fun z => by have := h2.mpr z; omega
  omega
/-! ### the numbers below one -/
def nxt (a b n : Int) : List Int := rgI (if n = 0 then 1 else -(-a * n / b)) ((a * n + a - 1) / b + 1)
theorem lo_iff {a b n z : Int} (hb : 1 ≤ b) : -(-a * n / b) ≤ z ↔ a * n ≤ b * z := by
  have e := Int.neg_mul a n
  have d1 := Int.mul_ediv_add_emod (-a * n) b
  have d2 := Int.emod_nonneg (-a * n) (show b ≠ 0 by omega)
  have d3 := Int.emod_lt_of_pos (-a * n) (show 0 < b by omega)
  generalize -a * n / b = q at *
  constructor
  · intro h
    have := Int.mul_le_mul_of_nonneg_left (show -z ≤ q by omega) (show 0 ≤ b by omega)
    rw [Int.mul_neg] at this
    omega
  · intro h
    rcases Int.lt_or_le (-z) (q + 1) with w | w
    · omega
    · exfalso
      have := Int.mul_le_mul_of_nonneg_left w (show 0 ≤ b by omega)
      rw [Int.mul_neg, Int.mul_add, Int.mul_one] at this
      omega
theorem hi_iff {a b n z : Int} (hb : 1 ≤ b) : z < (a * n + a - 1) / b + 1 ↔ b * z < a * n + a := by
  rw [show (z < (a * n + a - 1) / b + 1) ↔ z ≤ (a * n + a - 1) / b by omega, Int.le_ediv_iff_mul_le (show 0 < b by omega), Int.mul_comm z b]
  omega
theorem nxt_mem {a b n z : Int} (g : GB a b) (h0 : 0 ≤ n) : z ∈ nxt a b n ↔ 1 ≤ z ∧ a * n ≤ b * z ∧ b * z < a * n + a := by
  have gg := g.ok
  unfold nxt
  rw [rgI_mem, hi_iff g.b1]
  by_cases h : n = 0
  · subst h
    rw [if_pos rfl]
    constructor
    · rintro ⟨h1, h2⟩
      refine ⟨h1, ?_, h2⟩
      rw [Int.mul_zero]
      exact Int.mul_nonneg (by omega) (by omega)
    · rintro ⟨h1, h2, h3⟩
      exact ⟨h1, h3⟩
  · rw [if_neg h, lo_iff g.b1]
    constructor
    · rintro ⟨h1, h2⟩
      refine ⟨?_, h1, h2⟩
      have p : 0 < a * n := Int.mul_pos (by omega) (by omega)
      rcases Int.lt_or_le 0 z with w | w
      · omega
      · have := Int.mul_le_mul_of_nonneg_left w (show 0 ≤ b by omega)
        rw [Int.mul_zero] at this
        omega
    · rintro ⟨h1, h2, h3⟩
      exact ⟨h2, h3⟩
theorem nxt_up {a b n z : Int} (g : GB a b) (h0 : 0 ≤ n) (h : z ∈ nxt a b n) : 1 ≤ z ∧ b * z / a = n := by
  have gg := g.ok
  obtain ⟨h1, h2, h3⟩ := (nxt_mem g h0).mp h
  refine ⟨h1, ?_⟩
  have e : b * z = (b * z - a * n) + a * n := by omega
  rw [e, Int.add_mul_ediv_left _ _ (by omega), Int.ediv_eq_zero_of_lt (by omega) (by omega), Int.zero_add]
theorem nxt_le {a b n z : Int} (g : GB a b) (h0 : 0 ≤ n) (h : z ∈ nxt a b n) : z ≤ 60 * n + 60 := by
  have gg := g.ok
  obtain ⟨h1, h2, h3⟩ := (nxt_mem g h0).mp h
  have m1 : 1 * z ≤ b * z := Int.mul_le_mul_of_nonneg_right (by omega) (by omega)
  have m2 : a * n ≤ 60 * n := Int.mul_le_mul_of_nonneg_right gg.2.1 h0
  omega
theorem nxt_asc (a b n : Int) : (nxt a b n).Pairwise (· < ·) := rgI_asc _ _
theorem nxt_len {a b n : Int} (g : GB a b) (h0 : 0 ≤ n) : (nxt a b n).length ≤ 60 := by
  have gg := g.ok
  unfold nxt
  rw [rgI_len]
  have key : ∀ l : Int, a * n ≤ b * l → ((a * n + a - 1) / b + 1 - l).toNat ≤ 60 := by
    intro l hl
    have h1 := Int.mul_ediv_self_le (x := a * n + a - 1) (k := b) (by omega)
    generalize (a * n + a - 1) / b = h at h1 ⊢
    rcases Int.lt_or_le (h - l) a with w | w
    · omega
    · exfalso
      have h2 : b * a ≤ b * (h - l) := Int.mul_le_mul_of_nonneg_left w (by omega)
      have h3 : 1 * a ≤ b * a := Int.mul_le_mul_of_nonneg_right (by omega) (by omega)
      rw [Int.mul_sub] at h2
      omega
  refine key _ ?_
  by_cases h : n = 0
  · rw [if_pos h, h, Int.mul_zero, Int.mul_one]
    omega
  · rw [if_neg h]
    exact (lo_iff g.b1).mp (Int.le_refl _)
/-- found figure by figure -/
def dueN (a b n : Int) : Nat → List Int
  | 0 => []
  | i + 1 => dueN a b n i ++ (if (a * n + (i : Int)) % b = 0 ∧ 0 < a * n + (i : Int) then [(a * n + (i : Int)) / b] else [])
theorem dueN_mem {a b n z : Int} (hb : 1 ≤ b) (h0 : 0 ≤ a * n) : ∀ i : Nat, z ∈ dueN a b n i ↔ 1 ≤ z ∧ a * n ≤ b * z ∧ b * z < a * n + i
  | 0 => by
    constructor
    · intro h; cases h
    · rintro ⟨_, h1, h2⟩; omega
  | i + 1 => by
    show z ∈ dueN a b n i ++ _ ↔ _
    rw [List.mem_append, dueN_mem hb h0 i]
    by_cases c : (a * n + (i : Int)) % b = 0 ∧ 0 < a * n + (i : Int)
    · rw [if_pos c, List.mem_singleton]
      have e := Int.mul_ediv_add_emod (a * n + (i : Int)) b
      rw [c.1, Int.add_zero] at e
      constructor
      · rintro (⟨h1, h2, h3⟩ | rfl)
        · exact ⟨h1, h2, by omega⟩
        · refine ⟨?_, by omega, by omega⟩
          rcases Int.lt_or_le 0 ((a * n + (i : Int)) / b) with w | w
          · omega
          · have := Int.mul_le_mul_of_nonneg_left w (show 0 ≤ b by omega)
            rw [Int.mul_zero] at this
            omega
      · rintro ⟨h1, h2, h3⟩
        by_cases w : b * z = a * n + (i : Int)
        · right
          exact Int.eq_of_mul_eq_mul_left (show b ≠ 0 by omega) (w.trans e.symm)
        · exact .inl ⟨h1, h2, by omega⟩
    · rw [if_neg c]
      constructor
      · rintro (⟨h1, h2, h3⟩ | h)
        · exact ⟨h1, h2, by omega⟩
        · cases h
      · rintro ⟨h1, h2, h3⟩
        refine .inl ⟨h1, h2, ?_⟩
        by_cases w : b * z = a * n + (i : Int)
        · exfalso
          apply c
          refine ⟨by rw [← w]; exact Int.mul_emod_right b z, ?_⟩
          have : 1 * z ≤ b * z := Int.mul_le_mul_of_nonneg_right hb (by omega)
          omega
        · omega
theorem dueN_asc {a b n : Int} (hb : 1 ≤ b) (h0 : 0 ≤ a * n) : ∀ i : Nat, (dueN a b n i).Pairwise (· < ·)
  | 0 => .nil
  | i + 1 => by
    show (dueN a b n i ++ _).Pairwise _
    rw [List.pairwise_append]
    refine ⟨dueN_asc hb h0 i, ?_, fun x hx y hy => ?_⟩
    · split
      · exact List.pairwise_singleton _ _
      · exact .nil
    · obtain ⟨h1, h2, h3⟩ := (dueN_mem hb h0 i).mp hx
      split at hy
      · rename_i c
        have e := Int.mul_ediv_add_emod (a * n + (i : Int)) b
        rw [c.1, Int.add_zero] at e
        rw [List.mem_singleton.mp hy]
        exact Int.lt_of_mul_lt_mul_left (show b * x < b * ((a * n + (i : Int)) / b) by omega) (by omega)
      · cases hy
theorem due_nxt {a b n : Int} (g : GB a b) (h0 : 0 ≤ n) : dueN a b n a.toNat = nxt a b n := by
  have gg := g.ok
  have p : 0 ≤ a * n := Int.mul_nonneg (by omega) h0
  refine asc_eq _ _ (dueN_asc g.b1 p _) (nxt_asc a b n) fun k => ?_
  rw [dueN_mem g.b1 p, nxt_mem g h0, show ((a.toNat : Nat) : Int) = a by omega]
theorem nxt_head {a b : Int} (g : GB a b) {n : Int} (h0 : 0 ≤ n) (i : Nat) (hn : n = i) : rgI 1 ((a * i - 1) / b + 1) ++ nxt a b n = rgI 1 ((a * ((i + 1 : Nat) : Int) - 1) / b + 1) := by
  have gg := g.ok
  subst hn
  unfold nxt
  have e2 : a * ((i + 1 : Nat) : Int) - 1 = a * (i : Int) + a - 1 := by
    rw [show ((i + 1 : Nat) : Int) = (i : Int) + 1 by omega, Int.mul_add, Int.mul_one]
  rw [e2]
  have p : 0 ≤ a * (i : Int) := Int.mul_nonneg (by omega) (by omega)
  have hh : 0 ≤ (a * (i : Int) + a - 1) / b := Int.ediv_nonneg (by omega) (by omega)
  by_cases h : (i : Int) = 0
  · rw [if_pos h, h, Int.mul_zero, Int.zero_add]
    have z : (0 - 1) / b + 1 ≤ 1 := by
      have : (0 - 1) / b < 1 := Int.ediv_lt_of_lt_mul (by omega) (by omega)
      have h2 : (0 - 1) / b ≤ 0 := by omega
      omega
    rw [rgI_nil z, List.nil_append]
  · rw [if_neg h]
    have q := Int.mul_le_mul_of_nonneg_left (show 1 ≤ (i : Int) by omega) (show 0 ≤ a by omega)
    rw [Int.mul_one] at q
    have lo : -(-a * (i : Int) / b) = (a * (i : Int) - 1) / b + 1 := by
      rw [Int.neg_mul, ← up_div g.b1, show a * (i : Int) + b - 1 = a * (i : Int) - 1 + b * 1 by omega, Int.add_mul_ediv_left _ _ (by omega)]
    rw [lo]
    refine rgI_app ?_ ?_
    · have := Int.ediv_nonneg (show 0 ≤ a * (i : Int) - 1 by omega) (show 0 ≤ b by omega)
      omega
    · have := Int.ediv_le_ediv (show 0 < b by omega) (show a * (i : Int) - 1 ≤ a * (i : Int) + a - 1 by omega)
      omega
theorem cut_init (r : List Int) (x : Int) : cutI (r ++ [x]) none (some (-1)) = r := by
  unfold cutI
  have e : HT.sIx (r ++ [x]).length (r ++ [x]).length (some (-1)) = r.length := by
    show (if (-1 : Int) < 0 then ((-1 : Int) + ((r ++ [x]).length : Int)).toNat else min (-1 : Int).toNat (r ++ [x]).length) = r.length
    rw [if_pos (by decide), List.length_append, List.length_singleton]
    omega
  rw [e, HT.sIx_none, List.drop_zero, Nat.sub_zero, List.take_left]
theorem row_great2 {a b n : Int} (g : GB a b) (h0 : 0 ≤ n) (h1 : n < 10 ^ 42) (h2 : 10 * (a - b) < a → n < 1000) : (row a b n).length ≤ 1000 := by
  have := g.ok
  by_cases h : 10 * (a - b) < a
  · have l := row_len_le g.b1 g.ba n h0
    have := h2 h
    omega
  · have l := row_len_short g.b1 g.ba (by omega) 950 n h0 (by
      have e : (10 : Int) ^ 42 * 9 ^ 950 < 10 ^ 950 := by decide +kernel
      have : n * 9 ^ 950 ≤ 10 ^ 42 * 9 ^ 950 := Int.mul_le_mul_of_nonneg_right (by omega) (by decide +kernel)
      omega)
    omega
section
variable {P : Program} {w : World} {K : PySem.W.Frag} {mg : Str → Option Value} {base : Heap} {c : Nat → Addr}
theorem sc_is_whole : FnScope ["thing"] ["thing"] (defScope s_is_whole) := ⟨rfl, rfl, rfl, by decide +kernel, rfl, by decide +kernel, by decide +kernel⟩
def sp_is_whole : Sp := fun vs H Q _ => ∃ n, vs = [.int n] ∧ Q (.bl true) H
theorem go_is_whole {n H Q E} (q : Q (.bl true) H) : sp_is_whole [.int n] H Q E := ⟨n, rfl, q⟩
theorem ok_is_whole (T : Top K mg c) : Fn P w K mg base "is_whole" ["thing"] 1 sp_is_whole := by
  refine T.f_is_whole.ok sc_is_whole (fun vs H Q E h => ?_) (fun f cdv A outer s H vs Q E hr h => ?_)
  · obtain ⟨n, rfl, q⟩ := h
    rfl
  · obtain ⟨n, rfl, q⟩ := h
    refine ⟨_, (pss_one (ps_ret (pe_and (pe_callB (cr_isiB (K := K) rfl) rfl T.n_isinstance (by decide +kernel) (pa_cons (pv 0) (pa_cons (pe_bltn (v := .ty "int") (u := .type "int") rfl T.n_int (by decide +kernel) rfl) pa_nil))) (pe_one (pe_not (pe_callB (cr_isiB (K := K) rfl) rfl T.n_isinstance (by decide +kernel) (pa_cons (pv 0) (pa_cons (pe_bltn (v := .ty "bool") (u := .type "bool") rfl T.n_bool (by decide +kernel) rfl) pa_nil)))))))), ?_⟩
    walk_at "go"
    exact q
theorem sc_common : FnScope ["one", "other"] ["one", "other"] (defScope s_common) := ⟨rfl, rfl, rfl, by decide +kernel, rfl, by decide +kernel, by decide +kernel⟩
def sp_common : Sp := fun vs H Q _ => ∃ x y : Int, vs = [.int x, .int y] ∧ 0 ≤ x ∧ 0 ≤ y ∧ Q (.int (Int.gcd x y)) H
theorem go_common {x y : Int} {H Q E} (h0 : 0 ≤ x) (h1 : 0 ≤ y) (q : Q (.int (Int.gcd x y)) H) : sp_common [.int x, .int y] H Q E := ⟨x, y, rfl, h0, h1, q⟩
theorem gcd_mod {x y : Int} (hx : 0 ≤ x) (hy : 0 ≤ y) : Int.gcd y (x % y) = Int.gcd y x := by
  obtain ⟨m, rfl⟩ := Int.eq_ofNat_of_zero_le hx
  obtain ⟨k, rfl⟩ := Int.eq_ofNat_of_zero_le hy
  rw [show ((m : Int) % (k : Int)) = ((m % k : Nat) : Int) from by simp]
  show Nat.gcd _ _ = Nat.gcd _ _
  rw [Int.natAbs_natCast, Int.natAbs_natCast, Int.natAbs_natCast, Nat.gcd_rec k m, Nat.gcd_comm]
theorem ok_common (T : Top K mg c) : Fn P w K mg base "common" ["one", "other"] 1 sp_common := by
  refine T.f_common.ok sc_common (fun vs H Q E h => ?_) (fun f cdv A outer s H vs Q E hr h => ?_)
  · obtain ⟨x, y, rfl, h0, h1, q⟩ := h
    rfl
  · obtain ⟨x, y, rfl, h0, h1, q⟩ := h
    refine ⟨_, (pss_cons (ps_while PassesOwn.never (pt_cmpR op_gt (pv 1) pe_int (nomark _)) (pss_one (ps_par (i := 0) (j := 1) rfl sc_common.nd rfl rfl (by decide) rfl rfl (pa_cons (pv 1) (pa_cons (pe_op op_mod (pv 0) (pv 1)) pa_nil)) rfl)))
      (pss_one (ps_ret (pv 0)))), ?_⟩
    walk_at "go"
    refine whM (fun m σ H' => ∃ x' y' : Int, σ = [some (.int x'), some (.int y')] ∧ 0 ≤ x' ∧ 0 ≤ y' ∧ Int.gcd x' y' = Int.gcd x y ∧ m = y'.toNat ∧ H' = H) ⟨_, x, y, rfl, h0, h1, rfl, rfl, rfl⟩ ?_
    rintro m σ H' ⟨x', y', rfl, a0, a1, e, rfl, rfl⟩
    walk_at "go"
    refine rd_D (fun hy => ?_) (fun hy => ?_)
    · refine ⟨_, fun _ _ h => h, ?_⟩
      walk_at "go"
      have := Int.emod_nonneg x' (show y' ≠ 0 by omega)
      have := Int.emod_lt_of_pos x' hy
      refine ⟨_, ?_, y', x' % y', rfl, by omega, by omega, ?_, rfl, rfl⟩
      · omega
      · rw [← e, Int.gcd_comm x' y']
        exact gcd_mod a0 a1
    · walk_at "go"
      have e0 : y' = 0 := by omega
      subst e0
      have : (Int.gcd x y : Int) = x' := by rw [← e]; simp; omega
      rw [← this]
      exact q
theorem sc_check_base : FnScope ["base", "one"] ["base"] (defScope s_check_base) := ⟨rfl, rfl, rfl, by decide +kernel, rfl, by decide +kernel, by decide +kernel⟩
def sp_check_base : Sp := fun vs H Q _ => ∃ t a b, vs = [.ref t] ∧ OB H t (.tup [.int a, .int b]) ∧ GB a b ∧ ∀ H', SM H' H → Q .non H'
theorem go_check_base {t a b H Q E} [o : OB H t (.tup [.int a, .int b])] (g : GB a b) (q : ∀ H', SM H' H → Q .non H') : sp_check_base [.ref t] H Q E := ⟨t, a, b, rfl, o, g, q⟩
theorem ok_check_base (T : Top K mg c) : Fn P w K mg base "check_base" ["base"] 2 sp_check_base := by
  have F_common := ok_common (P := P) (w := w) (base := base) T
  have F_is_whole := ok_is_whole (P := P) (w := w) (base := base) T
  refine T.f_check_base.ok sc_check_base (fun vs H Q E h => ?_) (fun f cdv A outer s H vs Q E hr h => ?_)
  · obtain ⟨t, a, b, rfl, o, g, q⟩ := h
    rfl
  · obtain ⟨t, a, b, rfl, o, g, q⟩ := h
    refine ⟨_, (pss_cons (ps_if (PW.pt (pw_or (pt_not (pt_val (pe_callB (cr_isiB (K := K) rfl) rfl T.n_isinstance (by decide +kernel) (pa_cons (pv 0) (pa_cons (pe_bltn (v := .ty "tuple") (u := .type "tuple") rfl T.n_tuple (by decide +kernel) rfl) pa_nil))))) (pw_or (pt_cmpR op_ne (pe_callB cr_lenTB rfl T.n_len (by decide +kernel) (pa_cons (pv 0) pa_nil)) pe_int (nomark _)) (pw_or1 (pt_not (pt_val (pe_callB (cr_allB rfl) rfl T.n_all (by decide +kernel) (pa_cons (pe_lc (own := [("one", 1)]) (g := gName 1) (tt := tYes) rfl sc_check_base.nd (pi_tupK (K := K) rfl (pv 0)) (blkOk_by (own := [("one", 1)]) (N := ["base", "one"]) (sc := defScope s_check_base) (by decide +kernel)) (fun _ _ _ _ _ => (pg_name (i := 1) sc_check_base.nd rfl (Or.inl rfl))) (fun _ _ _ _ _ => pts_nil) (fun _ _ _ _ _ => (pe_fn F_is_whole hr rfl (pa_cons (pv 1) pa_nil)))) pa_nil)))))))) (pss_one ps_never) pss_nil)
      (pss_one (ps_if (PW.pt (pw_or (pt_not (pt_chain op_le op_le pe_int (pe_ix ix_tupB (pv 0) pe_int (fun _ _ => rfl)) (pe_glob (v := .int 60) rfl (T.c_GREATEST).choose_spec ⟨_, rfl⟩))) (pw_or (pt_not (pt_chain op_le op_lt pe_int (pe_ix ix_tupB (pv 0) pe_int (fun _ _ => rfl)) (pe_ix ix_tupB (pv 0) pe_int (fun _ _ => rfl)))) (pw_or1 (pt_cmpR op_gt (pe_fn F_common hr rfl (pa_cons (pe_ix ix_tupB (pv 0) pe_int (fun _ _ => rfl)) (pa_cons (pe_ix ix_tupB (pv 0) pe_int (fun _ _ => rfl)) pa_nil))) pe_int (nomark _)))))) (pss_one ps_never) pss_nil))), ?_⟩
    have gg := g.ok
    walk_at "go"
    refine lcMap [a, b] (fun _ => .bl true) (it_tup (xs := [.int a, .int b])) rfl (by simp) (fun H' s => inferInstance) ?_ ?_
    · rintro i x v H' H'' hi s ⟨rfl, hv⟩ Nt Nf ht
      have e : v = .int x := by
        rw [show ([V.int a, V.int b] : List V) = [a, b].map V.int from rfl, List.getElem?_map, hi] at hv
        exact (Option.some.inj hv).symm
      subst e
      walk_at "go"
      refine go_is_whole ?_
      exact ht _ smx
    · intro D H1 s1 f1 o1
      walk_at "go"
      have o2 : OB H1 D (.lst ([true, true].map V.bl)) := o1
      walk_at "go"
      refine go_common (x := a) (y := b) (by omega) (by omega) ?_
      walk_at "go"
      refine rd_F (decide_eq_false ?_) ?_
      · rw [g.g]; omega
      walk_at "go"
      exact q _ smx
theorem sc_check_number : FnScope ["number", "least"] ["number", "least"] (defScope s_check_number) := ⟨rfl, rfl, rfl, by decide +kernel, rfl, by decide +kernel, by decide +kernel⟩
def sp_check_number : Sp := fun vs H Q _ => ∃ n l : Int, vs = [.int n, .int l] ∧ l ≤ n ∧ Q .non H
theorem go_check_number {n l : Int} {H Q E} (h : l ≤ n) (q : Q .non H) : sp_check_number [.int n, .int l] H Q E := ⟨n, l, rfl, h, q⟩
theorem ok_check_number (T : Top K mg c) : Fn P w K mg base "check_number" ["number", "least"] 2 sp_check_number := by
  have F_is_whole := ok_is_whole (P := P) (w := w) (base := base) T
  refine T.f_check_number.ok sc_check_number (fun vs H Q E h => ?_) (fun f cdv A outer s H vs Q E hr h => ?_)
  · obtain ⟨n, l, rfl, h, q⟩ := h
    rfl
  · obtain ⟨n, l, rfl, h, q⟩ := h
    refine ⟨_, (pss_one (ps_if (PW.pt (pw_or (pt_not (pt_val (pe_fn F_is_whole hr rfl (pa_cons (pv 0) pa_nil)))) (pw_or1 (pt_cmpR op_lt (pv 0) (pv 1) (nomark _))))) (pss_one ps_never) pss_nil)), ?_⟩
    walk_at "go"
    refine go_is_whole ?_
    walk_at "go"
    exact q
theorem sc_parted : FnScope ["base", "number"] ["base", "number"] (defScope s_parted) := ⟨rfl, rfl, rfl, by decide +kernel, rfl, by decide +kernel, by decide +kernel⟩
def sp_parted : Sp := fun vs H Q _ => ∃ t a b n, vs = [.ref t, .int n] ∧ OB H t (.tup [.int a, .int b]) ∧ GB a b ∧ Bd n ∧ kNew Q (.tup [.int (b * n / a), .int (b * n % a)]) H
theorem go_parted {t a b n H Q E} [o : OB H t (.tup [.int a, .int b])] (g : GB a b) (h : Bd n) (q : kNew Q (.tup [.int (b * n / a), .int (b * n % a)]) H) : sp_parted [.ref t, .int n] H Q E := ⟨t, a, b, n, rfl, o, g, h, q⟩
theorem ok_parted (T : Top K mg c) : Fn P w K mg base "parted" ["base", "number"] 1 sp_parted := by
  refine T.f_parted.ok sc_parted (fun vs H Q E h => ?_) (fun f cdv A outer s H vs Q E hr h => ?_)
  · obtain ⟨t, a, b, n, rfl, o, g, hn, q⟩ := h
    rfl
  · obtain ⟨t, a, b, n, rfl, o, g, hn, q⟩ := h
    refine ⟨_, (pss_one (ps_ret (pe_tupB (pa_cons (pe_op op_fdivW (pe_op op_mulW (pe_ix ix_tupB (pv 0) pe_int (fun _ _ => rfl)) (pv 1)) (pe_ix ix_tupB (pv 0) pe_int (fun _ _ => rfl))) (pa_cons (pe_op op_mod (pe_op op_mulW (pe_ix ix_tupB (pv 0) pe_int (fun _ _ => rfl)) (pv 1)) (pe_ix ix_tupB (pv 0) pe_int (fun _ _ => rfl))) pa_nil))))), ?_⟩
    have gg := g.ok
    walk_at "go"
    exact kret q
theorem sc_least_below : FnScope ["base", "number"] ["base", "number"] (defScope s_least_below) := ⟨rfl, rfl, rfl, by decide +kernel, rfl, by decide +kernel, by decide +kernel⟩
def sp_least_below : Sp := fun vs H Q _ => ∃ t a b n, vs = [.ref t, .int n] ∧ OB H t (.tup [.int a, .int b]) ∧ GB a b ∧ Bd n ∧ Q (.int (-(-a * n / b))) H
theorem go_least_below {t a b n H Q E} [o : OB H t (.tup [.int a, .int b])] (g : GB a b) (h : Bd n) (q : Q (.int (-(-a * n / b))) H) : sp_least_below [.ref t, .int n] H Q E := ⟨t, a, b, n, rfl, o, g, h, q⟩
theorem ok_least_below (T : Top K mg c) : Fn P w K mg base "least_below" ["base", "number"] 1 sp_least_below := by
  refine T.f_least_below.ok sc_least_below (fun vs H Q E h => ?_) (fun f cdv A outer s H vs Q E hr h => ?_)
  · obtain ⟨t, a, b, n, rfl, o, g, hn, q⟩ := h
    rfl
  · obtain ⟨t, a, b, n, rfl, o, g, hn, q⟩ := h
    refine ⟨_, (pss_one (ps_ret (pe_un un_neg (pe_op op_fdivW (pe_op op_mulW (pe_un un_neg (pe_ix ix_tupB (pv 0) pe_int (fun _ _ => rfl))) (pv 1)) (pe_ix ix_tupB (pv 0) pe_int (fun _ _ => rfl)))))), ?_⟩
    have gg := g.ok
    walk_at "go"
    exact q
theorem sc_greatest_below : FnScope ["base", "number"] ["base", "number"] (defScope s_greatest_below) := ⟨rfl, rfl, rfl, by decide +kernel, rfl, by decide +kernel, by decide +kernel⟩
def sp_greatest_below : Sp := fun vs H Q _ => ∃ t a b n, vs = [.ref t, .int n] ∧ OB H t (.tup [.int a, .int b]) ∧ GB a b ∧ Bd n ∧ Q (.int ((a * n + a - 1) / b)) H
theorem go_greatest_below {t a b n H Q E} [o : OB H t (.tup [.int a, .int b])] (g : GB a b) (h : Bd n) (q : Q (.int ((a * n + a - 1) / b)) H) : sp_greatest_below [.ref t, .int n] H Q E := ⟨t, a, b, n, rfl, o, g, h, q⟩
theorem ok_greatest_below (T : Top K mg c) : Fn P w K mg base "greatest_below" ["base", "number"] 1 sp_greatest_below := by
  refine T.f_greatest_below.ok sc_greatest_below (fun vs H Q E h => ?_) (fun f cdv A outer s H vs Q E hr h => ?_)
  · obtain ⟨t, a, b, n, rfl, o, g, hn, q⟩ := h
    rfl
  · obtain ⟨t, a, b, n, rfl, o, g, hn, q⟩ := h
    refine ⟨_, (pss_one (ps_ret (pe_op op_fdivW (pe_op op_sub (pe_op op_add (pe_op op_mulW (pe_ix ix_tupB (pv 0) pe_int (fun _ _ => rfl)) (pv 1)) (pe_ix ix_tupB (pv 0) pe_int (fun _ _ => rfl))) pe_int) (pe_ix ix_tupB (pv 0) pe_int (fun _ _ => rfl))))), ?_⟩
    have gg := g.ok
    walk_at "go"
    exact q
theorem sc_shorter : FnScope ["base", "number"] ["base", "number"] (defScope s_shorter) := ⟨rfl, rfl, rfl, by decide +kernel, rfl, by decide +kernel, by decide +kernel⟩
def sp_shorter : Sp := fun vs H Q _ => ∃ t a b n, vs = [.ref t, .int n] ∧ OB H t (.tup [.int a, .int b]) ∧ GB a b ∧ 1 ≤ n ∧ Bd n ∧ ∀ H', SM H' H → Q (.int (b * n / a)) H'
theorem go_shorter {t a b n H Q E} [o : OB H t (.tup [.int a, .int b])] (g : GB a b) (h1 : 1 ≤ n) (h : Bd n) (q : ∀ H', SM H' H → Q (.int (b * n / a)) H') : sp_shorter [.ref t, .int n] H Q E := ⟨t, a, b, n, rfl, o, g, h1, h, q⟩
theorem ok_shorter (T : Top K mg c) : Fn P w K mg base "shorter" ["base", "number"] 3 sp_shorter := by
  have F_check_base := ok_check_base (P := P) (w := w) (base := base) T
  have F_check_number := ok_check_number (P := P) (w := w) (base := base) T
  have F_parted := ok_parted (P := P) (w := w) (base := base) T
  refine T.f_shorter.ok sc_shorter (fun vs H Q E h => ?_) (fun f cdv A outer s H vs Q E hr h => ?_)
  · obtain ⟨t, a, b, n, rfl, o, g, h1, hn, q⟩ := h
    rfl
  · obtain ⟨t, a, b, n, rfl, o, g, h1, hn, q⟩ := h
    refine ⟨_, (pss_cons (ps_expr (pe_fn F_check_base hr rfl (pa_cons (pv 0) pa_nil)))
      (pss_cons (ps_expr (pe_fn F_check_number hr rfl (pa_cons (pv 1) (pa_cons pe_int pa_nil))))
      (pss_one (ps_ret (pe_ix ix_tupB (pe_fn F_parted hr rfl (pa_cons (pv 0) (pa_cons (pv 1) pa_nil))) pe_int (fun _ _ => rfl)))))), ?_⟩
    have gg := g.ok
    walk_at "go"
    refine go_check_base g fun H1 s1 => ?_
    walk_at "go"
    refine go_check_number h1 ?_
    walk_at "go"
    refine go_parted g hn ?_
    intro p H2 s2 f2 o2
    walk_at "go"
    exact q _ smx
theorem sc_next_of : FnScope ["base", "number", "low"] ["base", "number"] (defScope s_next_of) := ⟨rfl, rfl, rfl, by decide +kernel, rfl, by decide +kernel, by decide +kernel⟩
def sp_next_of : Sp := fun vs H Q _ => ∃ t a b n, vs = [.ref t, .int n] ∧ OB H t (.tup [.int a, .int b]) ∧ GB a b ∧ 0 ≤ n ∧ Bd n ∧ kNew Q (.lst ((nxt a b n).map V.int)) H
theorem go_next_of {t a b n H Q E} [o : OB H t (.tup [.int a, .int b])] (g : GB a b) (h0 : 0 ≤ n) (h : Bd n) (q : kNew Q (.lst ((nxt a b n).map V.int)) H) : sp_next_of [.ref t, .int n] H Q E := ⟨t, a, b, n, rfl, o, g, h0, h, q⟩
theorem ok_next_of (T : Top K mg c) : Fn P w K mg base "next_of" ["base", "number"] 3 sp_next_of := by
  have F_check_base := ok_check_base (P := P) (w := w) (base := base) T
  have F_check_number := ok_check_number (P := P) (w := w) (base := base) T
  have F_least_below := ok_least_below (P := P) (w := w) (base := base) T
  have F_greatest_below := ok_greatest_below (P := P) (w := w) (base := base) T
  refine T.f_next_of.ok sc_next_of (fun vs H Q E h => ?_) (fun f cdv A outer s H vs Q E hr h => ?_)
  · obtain ⟨t, a, b, n, rfl, o, g, h0, hn, q⟩ := h
    rfl
  · obtain ⟨t, a, b, n, rfl, o, g, h0, hn, q⟩ := h
    refine ⟨_, (pss_cons (ps_expr (pe_fn F_check_base hr rfl (pa_cons (pv 0) pa_nil)))
      (pss_cons (ps_expr (pe_fn F_check_number hr rfl (pa_cons (pv 1) (pa_cons pe_int pa_nil))))
      (pss_cons (ps_set (i := 2) sc_next_of.nd rfl (Or.inl rfl) (pe_ifExp (pt_cmpR op_eq (pv 1) pe_int (nomark _)) pe_int (pe_fn F_least_below hr rfl (pa_cons (pv 0) (pa_cons (pv 1) pa_nil)))))
      (pss_one (ps_ret (pe_listR2 rfl rfl T.n_list rfl T.n_range (pa_cons (pv 2) (pa_cons (pe_op op_add (pe_fn F_greatest_below hr rfl (pa_cons (pv 0) (pa_cons (pv 1) pa_nil))) pe_int) pa_nil)))))))), ?_⟩
    have gg := g.ok
    have hl := nxt_len g h0
    unfold nxt at q hl
    rw [rgI_len] at hl
    walk_at "go"
    refine go_check_base g fun H1 s1 => ?_
    walk_at "go"
    refine go_check_number h0 ?_
    walk_at "go"
    refine rd_D (fun h => ?_) (fun h => ?_)
    · rw [if_pos h] at q hl
      walk_at "go"
      refine go_greatest_below g hn ?_
      walk_at "go"
      refine rd_kLR2 (by omega) ?_
      intro p H2 s2 f2 o2
      exact kret q
    · rw [if_neg h] at q hl
      walk_at "go"
      refine go_least_below g hn ?_
      walk_at "go"
      refine go_greatest_below g hn ?_
      walk_at "go"
      refine rd_kLR2 (by omega) ?_
      intro p H2 s2 f2 o2
      exact kret q
theorem sc_row_of : FnScope ["base", "number", "found", "figure"] ["base", "number"] (defScope s_row_of) := ⟨rfl, rfl, rfl, by decide +kernel, rfl, by decide +kernel, by decide +kernel⟩
def sp_row_of : Sp := fun vs H Q _ => ∃ t a b n, vs = [.ref t, .int n] ∧ OB H t (.tup [.int a, .int b]) ∧ GB a b ∧ 0 ≤ n ∧ Bd n ∧ ((row a b n).length ≤ 2000 → kNew Q (.lst ((row a b n).map V.int)) H) ∧ (2000 < (row a b n).length → ∀ H', SM H' H → Q .non H')
theorem go_row_of {t a b n H Q E} [o : OB H t (.tup [.int a, .int b])] (g : GB a b) (h0 : 0 ≤ n) (h : Bd n) (hl : (row a b n).length ≤ 2000) (q : kNew Q (.lst ((row a b n).map V.int)) H) : sp_row_of [.ref t, .int n] H Q E := ⟨t, a, b, n, rfl, o, g, h0, h, fun _ => q, fun z => absurd hl (by omega)⟩
theorem ok_row_of (T : Top K mg c) : Fn P w K mg base "row_of" ["base", "number"] 2 sp_row_of := by
  have F_parted := ok_parted (P := P) (w := w) (base := base) T
  refine T.f_row_of.ok sc_row_of (fun vs H Q E h => ?_) (fun f cdv A outer s H vs Q E hr h => ?_)
  · obtain ⟨t, a, b, n, rfl, o, g, h0, hn, q1, q2⟩ := h
    rfl
  · obtain ⟨t, a, b, n, rfl, o, g, h0, hn, q1, q2⟩ := h
    refine ⟨_, (pss_cons (ps_set (i := 2) sc_row_of.nd rfl (Or.inl rfl) (pe_lstB pa_nil))
      (pss_cons (ps_while PassesOwn.never (PW.pt (pw_and (pt_cmpR op_gt (pv 1) pe_int (nomark _)) (pw_and1 (pt_cmpR op_le (pe_callB cr_lenB rfl T.n_len (by decide +kernel) (pa_cons (pv 2) pa_nil)) (pe_glob (v := .int 2000) rfl (T.c_MOST).choose_spec ⟨_, rfl⟩) (nomark _))))) (pss_cons (ps_asg (pe_fn F_parted hr rfl (pa_cons (pv 0) (pa_cons (pv 1) pa_nil))) (pg_tupB (n := 2) rfl (pgs_cons (pg_name (i := 1) sc_row_of.nd rfl (Or.inl rfl)) (pgs_cons (pg_name (i := 3) sc_row_of.nd rfl (Or.inl rfl)) pgs_nil))))
      (pss_one (ps_expr (pe_bm PySem.F.plainAttrs_list PySem.F.slot_list_append PySem.F.type_list_append mt_appendB (pv 2) (pa_cons (pv 3) pa_nil))))))
      (pss_one (ps_ret (pe_ifExp (PW.pt (pw_and (pt_cmpR op_eq (pv 1) pe_int (nomark _)) (pw_and1 (pt_cmpR op_le (pe_callB cr_lenB rfl T.n_len (by decide +kernel) (pa_cons (pv 2) pa_nil)) (pe_glob (v := .int 2000) rfl (T.c_MOST).choose_spec ⟨_, rfl⟩) (nomark _))))) (pe_revB (pv 2)) pe_non))))), ?_⟩
    have gg := g.ok
    walk_at "go"
    rename_i p H1 s1 f1 o1
    have o1' : OB H1 p (.lst (([] : List Int).map V.int)) := o1
    clear o1
    refine whM (fun m σ H' => ∃ (n' : Int) (ns : List Int) (v : Option V), σ = [some (.ref t), some (.int n'), some (.ref p), v] ∧ 0 ≤ n' ∧ n' ≤ n ∧ SM H' H ∧ OB H' p (.lst (ns.map V.int)) ∧ row a b n' ++ ns.reverse = row a b n ∧ ns.length ≤ 2001 ∧ m = n'.toNat) ⟨_, n, [], none, rfl, h0, Int.le_refl _, smx, o1', by simp, by simp, rfl⟩ ?_
    rintro m σ H' ⟨n', ns, v, rfl, a0, a1, s2, o2, er, el, rfl⟩
    have hb := bd_le a0 a1 hn
    walk_at "go"
    refine rd_D (fun hp => ?_) (fun hp => ?_)
    · walk_at "go"
      refine rd_D (fun hq => ?_) (fun hq => ?_)
      · refine ⟨_, fun _ _ h => h, ?_⟩
        walk_at "go"
        refine go_parted g hb ?_
        intro t2 H2 s3 f3 o3
        walk_at "go"
        rename_i H3 u3 o4
        have l := div_lt' g.b1 g.ba hp
        have l0 := div_nn g.b1 g.ba a0
        refine ⟨_, ?_, b * n' / a, ns ++ [b * n' % a], _, rfl, l0, by omega, smx, by rw [List.map_append]; exact o4, ?_, ?_, rfl⟩
        · omega
        · rw [← er, row_step g.b1 g.ba hp]
          simp
        · simp; omega
      · walk_at "go"
        have : 2000 < (row a b n).length := by
          rw [← er, row_step g.b1 g.ba hp]
          simp
          omega
        refine q2 this _ smx
    · walk_at "go"
      have e0 : n' = 0 := by omega
      subst e0
      rw [row_nil (Int.le_refl 0), List.nil_append] at er
      walk_at "go"
      have el2 : ns.length = (row a b n).length := by rw [← er]; simp
      refine rd_D (fun hq => ?_) (fun hq => ?_)
      · walk_at "go"
        have q := q1 (by omega)
        rw [← er, List.map_reverse] at q
        exact kret q
      · walk_at "go"
        exact q2 (by omega) _ smx
theorem sc_written : FnScope ["base", "number", "found"] ["base", "number"] (defScope s_written) := ⟨rfl, rfl, rfl, by decide +kernel, rfl, by decide +kernel, by decide +kernel⟩
def sp_written : Sp := fun vs H Q _ => ∃ t a b n, vs = [.ref t, .int n] ∧ OB H t (.tup [.int a, .int b]) ∧ GB a b ∧ 0 ≤ n ∧ Bd n ∧ (row a b n).length ≤ 2000 ∧ kNew Q (.lst ((row a b n).map V.int)) H
theorem go_written {t a b n H Q E} [o : OB H t (.tup [.int a, .int b])] (g : GB a b) (h0 : 0 ≤ n) (h : Bd n) (hl : (row a b n).length ≤ 2000) (q : kNew Q (.lst ((row a b n).map V.int)) H) : sp_written [.ref t, .int n] H Q E := ⟨t, a, b, n, rfl, o, g, h0, h, hl, q⟩
theorem ok_written (T : Top K mg c) : Fn P w K mg base "written" ["base", "number"] 3 sp_written := by
  have F_check_base := ok_check_base (P := P) (w := w) (base := base) T
  have F_check_number := ok_check_number (P := P) (w := w) (base := base) T
  have F_row_of := ok_row_of (P := P) (w := w) (base := base) T
  refine T.f_written.ok sc_written (fun vs H Q E h => ?_) (fun f cdv A outer s H vs Q E hr h => ?_)
  · obtain ⟨t, a, b, n, rfl, o, g, h0, hn, hl, q⟩ := h
    rfl
  · obtain ⟨t, a, b, n, rfl, o, g, h0, hn, hl, q⟩ := h
    refine ⟨_, (pss_cons (ps_expr (pe_fn F_check_base hr rfl (pa_cons (pv 0) pa_nil)))
      (pss_cons (ps_expr (pe_fn F_check_number hr rfl (pa_cons (pv 1) (pa_cons pe_int pa_nil))))
      (pss_cons (ps_set (i := 2) sc_written.nd rfl (Or.inl rfl) (pe_fn F_row_of hr rfl (pa_cons (pv 0) (pa_cons (pv 1) pa_nil))))
      (pss_cons (ps_if (pt_cmp (pc_isN (pv 2))) (pss_one ps_never) pss_nil)
      (pss_one (ps_ret (pv 2))))))), ?_⟩
    have gg := g.ok
    walk_at "go"
    refine go_check_base g fun H1 s1 => ?_
    walk_at "go"
    refine go_check_number h0 ?_
    walk_at "go"
    refine go_row_of g h0 hn hl ?_
    intro p H2 s2 f2 o2
    walk_at "go"
    exact kret q
theorem sc_law_cell_at : FnScope ["_law_script", "_law_k"] ["_law_script", "_law_k"] (defScope s_law_cell_at) := ⟨rfl, rfl, rfl, by decide +kernel, rfl, by decide +kernel, by decide +kernel⟩
def sp_law_cell_at (K : PySem.W.Frag) : Sp := fun vs H Q _ => ∃ a ns k, vs = [.ref a, .int k] ∧ IR K H a ns ∧ 0 ≤ k ∧ ∀ c, Q (.int c) H
theorem go_law_cell_at {K a ns k H Q E} [o : IR K H a ns] (h0 : 0 ≤ k) (q : ∀ c, Q (.int c) H) : sp_law_cell_at K [.ref a, .int k] H Q E := ⟨a, ns, k, rfl, o, h0, q⟩
theorem ok_law_cell_at (T : Top K mg c) : Fn P w K mg base "_law_cell_at" ["_law_script", "_law_k"] 1 (sp_law_cell_at K) := by
  refine T.f_law_cell_at.ok sc_law_cell_at (fun vs H Q E h => ?_) (fun f cdv A outer s H vs Q E hr h => ?_)
  · obtain ⟨a, ns, k, rfl, o, h0, q⟩ := h
    rfl
  · obtain ⟨a, ns, k, rfl, o, h0, q⟩ := h
    refine ⟨_, (pss_cons (ps_if (pt_cmpR op_lt (pv 1) (pe_callB (cr_lenRB (K := K) rfl) rfl T.n_len (by decide +kernel) (pa_cons (pv 0) pa_nil)) (nomark _)) (pss_one (ps_ret (pe_ix (ix_rdB (K := K) rfl) (pv 0) (pv 1) (fun _ _ => rfl)))) pss_nil)
      (pss_one (ps_ret pe_int))), ?_⟩
    walk_at "go"
    refine rd_D (fun hk => ?_) (fun hk => ?_)
    · walk_at "go"
      refine rd_ixRI h0 hk ?_
      walk_at "go"
      exact q _
    · walk_at "go"
      exact q _
theorem sc_law_draw : FnScope ["_law_cell", "_law_k", "_law_most", "_law_primes"] ["_law_cell", "_law_k", "_law_most"] (defScope s_law_draw) := ⟨rfl, rfl, rfl, by decide +kernel, rfl, by decide +kernel, by decide +kernel⟩
def sp_law_draw : Sp := fun vs H Q _ => ∃ c k m, vs = [.int c, .int k, .int m] ∧ Bd c ∧ Bd k ∧ 0 < m ∧ ∀ r H', 0 ≤ r → r < m → SM H' H → Q (.int r) H'
theorem go_law_draw {c k m H Q E} (hc : Bd c) (hk : Bd k) (hm : 0 < m) (q : ∀ r H', 0 ≤ r → r < m → SM H' H → Q (.int r) H') : sp_law_draw [.int c, .int k, .int m] H Q E := ⟨c, k, m, rfl, hc, hk, hm, q⟩
theorem ok_law_draw (T : Top K mg c) : Fn P w K mg base "_law_draw" ["_law_cell", "_law_k", "_law_most"] 1 sp_law_draw := by
  refine T.f_law_draw.ok sc_law_draw (fun vs H Q E h => ?_) (fun f cdv A outer s H vs Q E hr h => ?_)
  · obtain ⟨c, k, m, rfl, hc, hk, hm, q⟩ := h
    rfl
  · obtain ⟨c, k, m, rfl, hc, hk, hm, q⟩ := h
    refine ⟨_, (pss_cons (ps_set (i := 3) sc_law_draw.nd rfl (Or.inl rfl) (pe_tupB (pa_cons pe_int (pa_cons pe_int (pa_cons pe_int (pa_cons pe_int (pa_cons pe_int (pa_cons pe_int (pa_cons pe_int (pa_cons pe_int (pa_cons pe_int (pa_cons pe_int (pa_cons pe_int (pa_cons pe_int (pa_cons pe_int (pa_cons pe_int (pa_cons pe_int (pa_cons pe_int pa_nil))))))))))))))))))
      (pss_one (ps_ret (pe_op op_mod (pe_op op_mod (pe_op op_add (pe_op op_mulW (pv 0) pe_int) (pe_op op_mulW (pv 1) pe_int)) (pe_ix ix_tupB (pv 3) (pe_op op_mod (pv 1) pe_int) (fun _ _ => rfl))) (pv 2))))), ?_⟩
    walk_at "go"
    have h1 := Int.emod_nonneg k (show (16 : Int) ≠ 0 by decide)
    have h2 := Int.emod_lt_of_pos k (show (0 : Int) < 16 by decide)
    refine rd_ixTI [1000003, 1000033, 1000037, 1000039, 1000081, 1000099, 1000117, 1000121, 1000133, 1000151, 1000159, 1000171, 1000183, 1000187, 1000193, 1000199] rfl h1 (by simp; omega) ?_
    have h3 : ∀ j : Nat, j < 16 → 0 < ([1000003, 1000033, 1000037, 1000039, 1000081, 1000099, 1000117, 1000121, 1000133, 1000151, 1000159, 1000171, 1000183, 1000187, 1000193, 1000199] : List Int).getD j 0 := by decide
    have h4 := h3 (k % 16).toNat (by omega)
    walk_at "go"
    exact q _ _ (Int.emod_nonneg _ (by omega)) (Int.emod_lt_of_pos _ hm) smx
theorem sc_law_number : FnScope ["_law_cell", "_law_k", "_law_limit", "_law_d"] ["_law_cell", "_law_k", "_law_limit"] (defScope s_law_number) := ⟨rfl, rfl, rfl, by decide +kernel, rfl, by decide +kernel, by decide +kernel⟩
def sp_law_number : Sp := fun vs H Q _ => ∃ c k m, vs = [.int c, .int k, .int m] ∧ Bd m ∧ 0 ≤ k ∧ k < 1000000 ∧ 0 < m ∧ ∀ r H', 0 ≤ r → r < m → SM H' H → Q (.int r) H'
theorem go_law_number {c k m H Q E} (hb : Bd m) (h0 : 0 ≤ k) (h1 : k < 1000000) (hm : 0 < m) (q : ∀ r H', 0 ≤ r → r < m → SM H' H → Q (.int r) H') : sp_law_number [.int c, .int k, .int m] H Q E := ⟨c, k, m, rfl, hb, h0, h1, hm, q⟩
theorem ok_law_number (T : Top K mg c) : Fn P w K mg base "_law_number" ["_law_cell", "_law_k", "_law_limit"] 2 sp_law_number := by
  have F_law_draw := ok_law_draw (P := P) (w := w) (base := base) T
  refine T.f_law_number.ok sc_law_number (fun vs H Q E h => ?_) (fun f cdv A outer s H vs Q E hr h => ?_)
  · obtain ⟨c, k, m, rfl, hb, h0, h1, hm, q⟩ := h
    rfl
  · obtain ⟨c, k, m, rfl, hb, h0, h1, hm, q⟩ := h
    refine ⟨_, (pss_cons (ps_if (pt_cmpR op_ge (pv 0) (pe_op (op_powL 10 18) pe_int pe_int) (nomark _)) (pss_cons (ps_set (i := 3) sc_law_number.nd rfl (Or.inl rfl) (pe_ix ix_tupB (pe_tupB (pa_cons pe_int (pa_cons pe_int (pa_cons pe_int (pa_cons pe_int (pa_cons pe_int pa_nil)))))) (pe_op op_mod (pv 1) pe_int) (fun _ _ => rfl)))
      (pss_one (ps_ret (pe_op op_fdivW (pe_op op_mod (pe_op op_sub (pv 0) (pe_op (op_powL 10 18) pe_int pe_int)) (pe_op op_mulW (pv 3) (pv 2))) (pv 3))))) pss_nil)
      (pss_cons (ps_if (pt_cmpR op_lt (pv 0) (pe_un un_neg (pe_op (op_powL 10 18) pe_int pe_int)) (nomark _)) (pss_one (ps_set (i := 0) sc_law_number.nd rfl (Or.inl rfl) (pe_op op_mod (pv 0) pe_int))) pss_nil)
      (pss_one (ps_ret (pe_op op_mod (pe_fn F_law_draw hr rfl (pa_cons (pe_op op_mulW (pe_op op_add (pv 0) (pe_op op_mulW pe_int (pv 1))) (pe_op op_add (pe_op op_add (pv 0) (pe_op op_mulW pe_int (pv 1))) pe_int)) (pa_cons (pe_op op_add (pe_op op_mod (pv 1) pe_int) pe_int) (pa_cons pe_int pa_nil)))) (pv 2)))))), ?_⟩
    walk_at "go"
    refine rd_D (fun hc => ?_) (fun hc => ?_)
    · walk_at "go"
      refine rd_ixTI [1, 7, 49, 343, 2401] rfl (by omega) (by simp; omega) ?_
      have h3 : ∀ j : Nat, j < 5 → 0 < ([1, 7, 49, 343, 2401] : List Int).getD j 0 ∧ ([1, 7, 49, 343, 2401] : List Int).getD j 0 < 3000 := by decide
      obtain ⟨h4, h5⟩ := h3 (k % 5).toNat (by omega)
      generalize ([1, 7, 49, 343, 2401] : List Int).getD (k % 5).toNat 0 = d at h4 h5 ⊢
      have hp : 0 < d * m := Int.mul_pos h4 hm
      walk_at "go"
      have a1 := Int.emod_nonneg (c - 10 ^ 18) (show d * m ≠ 0 by omega)
      have a2 := Int.emod_lt_of_pos (c - 10 ^ 18) hp
      refine q _ _ (Int.ediv_nonneg a1 (by omega)) (Int.ediv_lt_of_lt_mul h4 (by rw [Int.mul_comm m d]; exact a2)) smx
    · walk_at "go"
      refine rd_D (fun hd => ?_) (fun hd => ?_)
      all_goals
        walk_at "go"
        try (refine rd_I (mulw (bd_lt (k := 200) (by omega)) (bd_lt (k := 200) (by omega))) ?_; walk_at "go")
        refine go_law_draw (bd_lt (wide_lt (a := 200) (b := 200) (by omega) (by omega)) (by decide)) (bd_s (by omega)) (by omega) ?_
        intro r H2 _ _ s2
        walk_at "go"
        exact q _ _ (Int.emod_nonneg _ (by omega)) (Int.emod_lt_of_pos _ hm) smx
theorem sc_law_common : FnScope ["_law_one", "_law_other"] ["_law_one", "_law_other"] (defScope s_law_common) := ⟨rfl, rfl, rfl, by decide +kernel, rfl, by decide +kernel, by decide +kernel⟩
def sp_law_common : Sp := fun vs H Q _ => ∃ x y : Int, vs = [.int x, .int y] ∧ 0 ≤ x ∧ 0 ≤ y ∧ Q (.int (Int.gcd x y)) H
theorem go_law_common {x y : Int} {H Q E} (h0 : 0 ≤ x) (h1 : 0 ≤ y) (q : Q (.int (Int.gcd x y)) H) : sp_law_common [.int x, .int y] H Q E := ⟨x, y, rfl, h0, h1, q⟩
theorem ok_law_common (T : Top K mg c) : Fn P w K mg base "_law_common" ["_law_one", "_law_other"] 1 sp_law_common := by
  refine T.f_law_common.ok sc_law_common (fun vs H Q E h => ?_) (fun f cdv A outer s H vs Q E hr h => ?_)
  · obtain ⟨x, y, rfl, h0, h1, q⟩ := h
    rfl
  · obtain ⟨x, y, rfl, h0, h1, q⟩ := h
    refine ⟨_, (pss_cons (ps_while PassesOwn.never (pt_cmpR op_gt (pv 1) pe_int (nomark _)) (pss_one (ps_par (i := 0) (j := 1) rfl sc_law_common.nd rfl rfl (by decide) rfl rfl (pa_cons (pv 1) (pa_cons (pe_op op_mod (pv 0) (pv 1)) pa_nil)) rfl)))
      (pss_one (ps_ret (pv 0)))), ?_⟩
    walk_at "go"
    refine whM (fun m σ H' => ∃ x' y' : Int, σ = [some (.int x'), some (.int y')] ∧ 0 ≤ x' ∧ 0 ≤ y' ∧ Int.gcd x' y' = Int.gcd x y ∧ m = y'.toNat ∧ H' = H) ⟨_, x, y, rfl, h0, h1, rfl, rfl, rfl⟩ ?_
    rintro m σ H' ⟨x', y', rfl, a0, a1, e, rfl, rfl⟩
    walk_at "go"
    refine rd_D (fun hy => ?_) (fun hy => ?_)
    · refine ⟨_, fun _ _ h => h, ?_⟩
      walk_at "go"
      have := Int.emod_nonneg x' (show y' ≠ 0 by omega)
      have := Int.emod_lt_of_pos x' hy
      refine ⟨_, ?_, y', x' % y', rfl, by omega, by omega, ?_, rfl, rfl⟩
      · omega
      · rw [← e, Int.gcd_comm x' y']
        exact gcd_mod a0 a1
    · walk_at "go"
      have e0 : y' = 0 := by omega
      subst e0
      have : (Int.gcd x y : Int) = x' := by rw [← e]; simp; omega
      rw [← this]
      exact q
theorem sc_law_base : FnScope ["_law_script", "_law_by", "_law_cell", "_law_some", "_law_top", "_law_low"] ["_law_script", "_law_by"] (defScope s_law_base) := ⟨rfl, rfl, rfl, by decide +kernel, rfl, by decide +kernel, by decide +kernel⟩
def sp_law_base (K : PySem.W.Frag) : Sp := fun vs H Q _ => ∃ a ns k, vs = [.ref a, .int k] ∧ IR K H a ns ∧ 0 ≤ k ∧ k < 100000 ∧ ∀ x y, GB x y → kNew Q (.tup [.int x, .int y]) H
theorem go_law_base {K a ns k H Q E} [o : IR K H a ns] (h0 : 0 ≤ k) (h1 : k < 100000) (q : ∀ x y, GB x y → kNew Q (.tup [.int x, .int y]) H) : sp_law_base K [.ref a, .int k] H Q E := ⟨a, ns, k, rfl, o, h0, h1, q⟩
theorem ok_law_base (T : Top K mg c) : Fn P w K mg base "_law_base" ["_law_script", "_law_by"] 3 (sp_law_base K) := by
  have F_law_cell_at := ok_law_cell_at (P := P) (w := w) (base := base) T
  have F_law_number := ok_law_number (P := P) (w := w) (base := base) T
  have F_law_common := ok_law_common (P := P) (w := w) (base := base) T
  refine T.f_law_base.ok sc_law_base (fun vs H Q E h => ?_) (fun f cdv A outer s H vs Q E hr h => ?_)
  · obtain ⟨a, ns, k, rfl, o, h0, h1, q⟩ := h
    rfl
  · obtain ⟨a, ns, k, rfl, o, h0, h1, q⟩ := h
    refine ⟨_, (pss_cons (ps_set (i := 2) sc_law_base.nd rfl (Or.inl rfl) (pe_fn F_law_cell_at hr rfl (pa_cons (pv 0) (pa_cons (pv 1) pa_nil))))
      (pss_cons (ps_set (i := 3) sc_law_base.nd rfl (Or.inl rfl) (pe_tupB (pa_cons (pe_tupB (pa_cons pe_int (pa_cons pe_int pa_nil))) (pa_cons (pe_tupB (pa_cons pe_int (pa_cons pe_int pa_nil))) (pa_cons (pe_tupB (pa_cons pe_int (pa_cons pe_int pa_nil))) (pa_cons (pe_tupB (pa_cons pe_int (pa_cons pe_int pa_nil))) (pa_cons (pe_tupB (pa_cons pe_int (pa_cons pe_int pa_nil))) (pa_cons (pe_tupB (pa_cons pe_int (pa_cons pe_int pa_nil))) (pa_cons (pe_tupB (pa_cons pe_int (pa_cons pe_int pa_nil))) (pa_cons (pe_tupB (pa_cons pe_int (pa_cons pe_int pa_nil))) pa_nil))))))))))
      (pss_cons (ps_if (pt_cmpR op_eq (pe_fn F_law_number hr rfl (pa_cons (pv 2) (pa_cons (pe_op op_add (pv 1) pe_int) (pa_cons pe_int pa_nil)))) pe_int (nomark _)) (pss_one (ps_ret (pe_ix ix_tupB (pv 3) (pe_fn F_law_number hr rfl (pa_cons (pv 2) (pa_cons (pe_op op_add (pv 1) pe_int) (pa_cons pe_int pa_nil)))) (fun _ _ => rfl)))) pss_nil)
      (pss_cons (ps_set (i := 4) sc_law_base.nd rfl (Or.inl rfl) (pe_op op_add pe_int (pe_fn F_law_number hr rfl (pa_cons (pv 2) (pa_cons (pe_op op_add (pv 1) pe_int) (pa_cons pe_int pa_nil))))))
      (pss_cons (ps_set (i := 5) sc_law_base.nd rfl (Or.inl rfl) (pe_op op_add pe_int (pe_fn F_law_number hr rfl (pa_cons (pv 2) (pa_cons (pe_op op_add (pv 1) pe_int) (pa_cons (pe_op op_sub (pv 4) pe_int) pa_nil))))))
      (pss_cons (ps_while PassesOwn.never (pt_cmpR op_gt (pe_fn F_law_common hr rfl (pa_cons (pv 4) (pa_cons (pv 5) pa_nil))) pe_int (nomark _)) (pss_one (ps_set (i := 5) sc_law_base.nd rfl (Or.inl rfl) (pe_op op_sub (pv 5) pe_int))))
      (pss_one (ps_ret (pe_tupB (pa_cons (pv 4) (pa_cons (pv 5) pa_nil))))))))))), ?_⟩
    walk_at "go"
    refine go_law_cell_at h0 fun c => ?_
    walk_at "go"
    refine go_law_number (bd_s (by decide)) (by omega) (by omega) (by decide) fun r H2 hr0 hr1 s2 => ?_
    walk_at "go"
    refine rd_D (fun hz => ?_) (fun hz => ?_)
    · walk_at "go"
      refine go_law_number (bd_s (by decide)) (by omega) (by omega) (by decide) fun r2 H3 hr2 hr3 s3 => ?_
      have hz : r2 = 0 ∨ r2 = 1 ∨ r2 = 2 ∨ r2 = 3 ∨ r2 = 4 ∨ r2 = 5 ∨ r2 = 6 ∨ r2 = 7 := by omega
      rcases hz with rfl | rfl | rfl | rfl | rfl | rfl | rfl | rfl
      all_goals
        walk_at "go"
        exact kret (q _ _ ⟨by decide, by decide, by decide, by decide, by decide⟩)
    · walk_at "go"
      refine go_law_number (bd_s (by decide)) (by omega) (by omega) (by decide) fun r2 H3 hr2 hr3 s3 => ?_
      walk_at "go"
      refine go_law_number (bd_s (by omega)) (by omega) (by omega) (by omega) fun r4 H4 hr4 hr5 s4 => ?_
      walk_at "go"
      rename_i H0
      refine whM (fun m σ H' => ∃ (z : Int) (v3 : Option V), σ = [some (.ref a), some (.int k), some (.int c), v3, some (.int (2 + r2)), some (.int z)] ∧ 1 ≤ z ∧ z < 2 + r2 ∧ SM H' H ∧ m = z.toNat) ⟨_, 1 + r4, _, rfl, by omega, by omega, smx, rfl⟩ ?_
      rintro m σ H' ⟨z, v3, rfl, z1, z2, s5, rfl⟩
      walk_at "go"
      refine go_law_common (x := 2 + r2) (y := z) (by omega) (by omega) ?_
      walk_at "go"
      refine rd_D (fun hg => ?_) (fun hg => ?_)
      · refine ⟨_, fun _ _ h => h, ?_⟩
        walk_at "go"
        have hz1 : z ≠ 1 := by
          intro e
          subst e
          rw [Int.gcd_one_right] at hg
          omega
        refine ⟨(z - 1).toNat, by omega, z - 1, _, rfl, by omega, by omega, smx, rfl⟩
      · walk_at "go"
        have g0 : 0 < Int.gcd (2 + r2) z := Int.gcd_pos_of_ne_zero_left _ (by omega)
        exact kret (q _ _ ⟨by omega, by omega, by omega, by omega, by omega⟩)
theorem sc_law_great : FnScope ["_law_script", "_law_by", "_law_base_here", "_law_cell", "_law_wide"] ["_law_script", "_law_by", "_law_base_here"] (defScope s_law_great) := ⟨rfl, rfl, rfl, by decide +kernel, rfl, by decide +kernel, by decide +kernel⟩
def sp_law_great (K : PySem.W.Frag) : Sp := fun vs H Q _ => ∃ a ns k t x y, vs = [.ref a, .int k, .ref t] ∧ IR K H a ns ∧ 0 ≤ k ∧ k < 100000 ∧ OB H t (.tup [.int x, .int y]) ∧ GB x y ∧ ∀ r H', Great x y r → SM H' H → Q (.int r) H'
theorem go_law_great {K a ns k t x y H Q E} [o : IR K H a ns] [o2 : OB H t (.tup [.int x, .int y])] (h0 : 0 ≤ k) (h1 : k < 100000) (g : GB x y) (q : ∀ r H', Great x y r → SM H' H → Q (.int r) H') : sp_law_great K [.ref a, .int k, .ref t] H Q E := ⟨a, ns, k, t, x, y, rfl, o, h0, h1, o2, g, q⟩
theorem ok_law_great (T : Top K mg c) : Fn P w K mg base "_law_great" ["_law_script", "_law_by", "_law_base_here"] 3 (sp_law_great K) := by
  have F_law_cell_at := ok_law_cell_at (P := P) (w := w) (base := base) T
  have F_law_number := ok_law_number (P := P) (w := w) (base := base) T
  refine T.f_law_great.ok sc_law_great (fun vs H Q E h => ?_) (fun f cdv A outer s H vs Q E hr h => ?_)
  · obtain ⟨a, ns, k, t, x, y, rfl, o, h0, h1, o2, g, q⟩ := h
    rfl
  · obtain ⟨a, ns, k, t, x, y, rfl, o, h0, h1, o2, g, q⟩ := h
    refine ⟨_, (pss_cons (ps_set (i := 3) sc_law_great.nd rfl (Or.inl rfl) (pe_fn F_law_cell_at hr rfl (pa_cons (pv 0) (pa_cons (pv 1) pa_nil))))
      (pss_cons (ps_set (i := 4) sc_law_great.nd rfl (Or.inl rfl) (pe_ix ix_tupB (pe_tupB (pa_cons pe_int (pa_cons pe_int (pa_cons (pe_op (op_powL 10 9) pe_int pe_int) (pa_cons (pe_op (op_powL 10 40) pe_int pe_int) pa_nil))))) (pe_fn F_law_number hr rfl (pa_cons (pv 3) (pa_cons (pe_op op_add (pv 1) pe_int) (pa_cons pe_int pa_nil)))) (fun _ _ => rfl)))
      (pss_cons (ps_if (pt_cmpR op_lt (pe_op op_mulW pe_int (pe_op op_sub (pe_ix ix_tupB (pv 2) pe_int (fun _ _ => rfl)) (pe_ix ix_tupB (pv 2) pe_int (fun _ _ => rfl)))) (pe_ix ix_tupB (pv 2) pe_int (fun _ _ => rfl)) (nomark _)) (pss_one (ps_set (i := 4) sc_law_great.nd rfl (Or.inl rfl) (pe_callB (cr_min2B rfl) rfl T.n_min (by decide +kernel) (pa_cons (pv 4) (pa_cons pe_int pa_nil))))) pss_nil)
      (pss_one (ps_ret (pe_fn F_law_number hr rfl (pa_cons (pv 3) (pa_cons (pe_op op_add (pv 1) pe_int) (pa_cons (pv 4) pa_nil))))))))), ?_⟩
    have gg := g.ok
    walk_at "go"
    refine go_law_cell_at h0 fun c => ?_
    walk_at "go"
    refine go_law_number (bd_s (by decide)) (by omega) (by omega) (by decide) fun r H2 hr0 hr1 s2 => ?_
    refine rd_ixTI [30, 1000, 10 ^ 9, 10 ^ 40] rfl (by omega) (by simp; omega) ?_
    have h3 : ∀ j : Nat, j < 4 → 0 < ([30, 1000, 10 ^ 9, 10 ^ 40] : List Int).getD j 0 ∧ ([30, 1000, 10 ^ 9, 10 ^ 40] : List Int).getD j 0 ≤ 10 ^ 40 := by decide +kernel
    obtain ⟨h4, h5⟩ := h3 r.toNat (by omega)
    generalize ([30, 1000, 10 ^ 9, 10 ^ 40] : List Int).getD r.toNat 0 = d at h4 h5 ⊢
    walk_at "go"
    refine rd_D (fun hz => ?_) (fun hz => ?_)
    · walk_at "go"
      refine go_law_number (bd_s (by omega)) (by omega) (by omega) (by omega) fun r2 H3 hr2 hr3 s3 => ?_
      exact q _ _ ⟨by omega, by omega, fun _ => by omega⟩ smx
    · walk_at "go"
      refine go_law_number (bd_lt (k := 200) (by omega)) (by omega) (by omega) (by omega) fun r2 H3 hr2 hr3 s3 => ?_
      exact q _ _ ⟨by omega, by omega, fun _ => by omega⟩ smx
theorem sc_law_whole : FnScope ["_law_found"] ["_law_found"] (defScope s_law_whole) := ⟨rfl, rfl, rfl, by decide +kernel, rfl, by decide +kernel, by decide +kernel⟩
def sp_law_whole : Sp := fun vs H Q _ => ∃ n, vs = [.int n] ∧ Q (.bl true) H
theorem go_law_whole {n H Q E} (q : Q (.bl true) H) : sp_law_whole [.int n] H Q E := ⟨n, rfl, q⟩
theorem ok_law_whole (T : Top K mg c) : Fn P w K mg base "_law_whole" ["_law_found"] 1 sp_law_whole := by
  refine T.f_law_whole.ok sc_law_whole (fun vs H Q E h => ?_) (fun f cdv A outer s H vs Q E hr h => ?_)
  · obtain ⟨n, rfl, q⟩ := h
    rfl
  · obtain ⟨n, rfl, q⟩ := h
    refine ⟨_, (pss_one (ps_ret (pe_and (pe_callB (cr_isiB (K := K) rfl) rfl T.n_isinstance (by decide +kernel) (pa_cons (pv 0) (pa_cons (pe_bltn (v := .ty "int") (u := .type "int") rfl T.n_int (by decide +kernel) rfl) pa_nil))) (pe_one (pe_not (pe_callB (cr_isiB (K := K) rfl) rfl T.n_isinstance (by decide +kernel) (pa_cons (pv 0) (pa_cons (pe_bltn (v := .ty "bool") (u := .type "bool") rfl T.n_bool (by decide +kernel) rfl) pa_nil)))))))), ?_⟩
    walk_at "go"
    exact q
theorem sc_law_right : FnScope ["_law_base_here", "_law_number_here", "_law_found", "_law_due", "_law_figure", "_law_total", "_law_kept", "_law_one"] ["_law_base_here", "_law_number_here"] (defScope s_law_right) := ⟨rfl, rfl, rfl, by decide +kernel, rfl, by decide +kernel, by decide +kernel⟩
def sp_law_right : Sp := fun vs H Q _ => ∃ t a b n, vs = [.ref t, .int n] ∧ OB H t (.tup [.int a, .int b]) ∧ GB a b ∧ 0 ≤ n ∧ n < 10 ^ 80 ∧ ∀ H', SM H' H → Q (.bl true) H'
theorem go_law_right {t a b n H Q E} [o : OB H t (.tup [.int a, .int b])] (g : GB a b) (h0 : 0 ≤ n) (h1 : n < 10 ^ 80) (q : ∀ H', SM H' H → Q (.bl true) H') : sp_law_right [.ref t, .int n] H Q E := ⟨t, a, b, n, rfl, o, g, h0, h1, q⟩
theorem ok_law_right (T : Top K mg c) : FnG P w K mg base "_law_right" ["_law_base_here", "_law_number_here"] 4 sp_law_right := by
  have F_next_of := ok_next_of (P := P) (w := w) (base := base) T
  have F_shorter := ok_shorter (P := P) (w := w) (base := base) T
  have F_law_whole := ok_law_whole (P := P) (w := w) (base := base) T
  refine T.f_law_right.okG sc_law_right (fun vs H Q E h => ?_) (fun f cdv A outer s H vs Q E hr gd h => ?_)
  · obtain ⟨t, a, b, n, rfl, o, g, h0, h1, q⟩ := h
    rfl
  · obtain ⟨t, a, b, n, rfl, o, g, h0, h1, q⟩ := h
    refine ⟨_, (pss_cons (ps_set (i := 2) sc_law_right.nd rfl (Or.inl rfl) (pe_fn F_next_of hr rfl (pa_cons (pv 0) (pa_cons (pv 1) pa_nil))))
      (pss_cons (ps_if (PW.pt (pw_or (pt_not (pt_val (pe_callB (cr_isiB (K := K) rfl) rfl T.n_isinstance (by decide +kernel) (pa_cons (pv 2) (pa_cons (pe_bltn (v := .ty "list") (u := .type "list") rfl T.n_list (by decide +kernel) rfl) pa_nil))))) (pw_or (pt_not (pt_val (pe_callB (cr_allB rfl) rfl T.n_all (by decide +kernel) (pa_cons (pe_lc (own := [("_law_one", 7)]) (g := gName 7) (tt := tYes) rfl sc_law_right.nd (pi_listK (K := K) rfl (pv 2)) (blkOk_by (own := [("_law_one", 7)]) (N := ["_law_base_here", "_law_number_here", "_law_found", "_law_due", "_law_figure", "_law_total", "_law_kept", "_law_one"]) (sc := defScope s_law_right) (by decide +kernel)) (fun _ _ _ _ _ => (pg_name (i := 7) sc_law_right.nd rfl (Or.inl rfl))) (fun _ _ _ _ _ => pts_nil) (fun _ _ _ _ _ => (pe_fn F_law_whole hr rfl (pa_cons (pv 7) pa_nil)))) pa_nil)))) (pw_or1 (pt_cmpR (op_neB (K := K) rfl hr.units) (pv 2) (pe_sortedSet (K := K) rfl rfl rfl T.n_sorted rfl T.n_set (pv 2)) (nomark _)))))) (pss_one (ps_ret pe_bl)) pss_nil)
      (pss_cons (ps_set (i := 3) sc_law_right.nd rfl (Or.inl rfl) (pe_lstB pa_nil))
      (pss_cons (ps_for PassesOwn.never rfl (pi_range1 rfl T.n_range (pa_cons (pe_ix ix_tupB (pv 0) pe_int (fun _ _ => rfl)) pa_nil)) (pg_name (i := 4) sc_law_right.nd rfl (Or.inl rfl))
      (pss_cons (ps_set (i := 5) sc_law_right.nd rfl (Or.inl rfl) (pe_op op_add (pe_op op_mulW (pe_ix ix_tupB (pv 0) pe_int (fun _ _ => rfl)) (pv 1)) (pv 4)))
      (pss_one (ps_if (PW.pt (pw_and (pt_cmpR op_eq (pe_op op_mod (pv 5) (pe_ix ix_tupB (pv 0) pe_int (fun _ _ => rfl))) pe_int (nomark _)) (pw_and1 (pt_cmpR op_gt (pv 5) pe_int (nomark _))))) (pss_one (ps_expr (pe_bm PySem.F.plainAttrs_list PySem.F.slot_list_append PySem.F.type_list_append mt_appendB (pv 3) (pa_cons (pe_op op_fdivW (pv 5) (pe_ix ix_tupB (pv 0) pe_int (fun _ _ => rfl))) pa_nil)))) pss_nil))))
      (pss_cons (ps_if (pt_cmpR (op_neB (K := K) rfl hr.units) (pv 2) (pv 3) (nomark _)) (pss_one (ps_ret pe_bl)) pss_nil)
      (pss_cons (ps_if (pt_cmpR op_ne (pe_callTy (cr_strL gd hr.units) rfl T.n_str (by decide +kernel) (pa_cons (pe_lc (own := [("_law_one", 7)]) (g := gName 7) (tt := tYes) rfl sc_law_right.nd (pi_listK (K := K) rfl (pv 2)) (blkOk_by (own := [("_law_one", 7)]) (N := ["_law_base_here", "_law_number_here", "_law_found", "_law_due", "_law_figure", "_law_total", "_law_kept", "_law_one"]) (sc := defScope s_law_right) (by decide +kernel)) (fun _ _ _ _ _ => (pg_name (i := 7) sc_law_right.nd rfl (Or.inl rfl))) (fun _ _ _ _ _ => pts_nil) (fun _ _ _ _ _ => (pe_fn F_shorter hr rfl (pa_cons (pv 0) (pa_cons (pv 7) pa_nil))))) pa_nil)) (pe_callTy (cr_strL gd hr.units) rfl T.n_str (by decide +kernel) (pa_cons (pe_op op_repB (pe_lstB (pa_cons (pv 1) pa_nil)) (pe_callB cr_lenB rfl T.n_len (by decide +kernel) (pa_cons (pv 2) pa_nil))) pa_nil)) (nomark _)) (pss_one (ps_ret pe_bl)) pss_nil)
      (pss_cons (ps_set (i := 6) sc_law_right.nd rfl (Or.inl rfl) (pe_callTy cr_listB rfl T.n_list (by decide +kernel) (pa_cons (pv 2) pa_nil)))
      (pss_cons (ps_expr (pe_bm PySem.F.plainAttrs_list PySem.F.slot_list_append PySem.F.type_list_append mt_appendB (pv 2) (pa_cons pe_int pa_nil)))
      (pss_one (ps_ret (pe_cmpR (op_eqB (K := K) rfl hr.units) (pe_fn F_next_of hr rfl (pa_cons (pv 0) (pa_cons (pv 1) pa_nil))) (pv 6) (nomark _)))))))))))), ?_⟩
    have gg := g.ok
    have hb : Bd n := bd_lt (k := 300) (by omega)
    have hl := nxt_len g h0
    have up := fun z (h : z ∈ nxt a b n) => nxt_up g h0 h
    have le := fun z (h : z ∈ nxt a b n) => nxt_le g h0 h
    have asc := nxt_asc a b n
    have due := due_nxt g h0
    walk_at "go"
    refine go_next_of g h0 hb ?_
    intro p H1 s1 f1 o1
    generalize hxs : nxt a b n = xs at *
    walk_at "go"
    refine lcMap xs (fun _ => .bl true) (it_list (xs := xs.map V.int)) (by simp) (by omega) (fun H' s => inferInstance) ?_ ?_
    · rintro i x v H' H'' hi s ⟨rfl, hv⟩ Nt Nf ht
      have e : v = .int x := by
        rw [List.getElem?_map, hi] at hv
        exact (Option.some.inj hv).symm
      subst e
      walk_at "go"
      refine go_law_whole ?_
      exact ht _ smx
    intro D H2 s2 f2 o2
    walk_at "go"
    refine rd_sortS (by omega) asc ?_
    intro p3 H3 s3 f3 o3
    walk_at "go"
    rename_i p4 H4 s4 f4 o4
    have o4' : OB H4 p4 (.lst ((dueN a b n 0).map V.int)) := o4
    clear o4
    refine forM it_range (fun i σ H' => ∃ (v1 v2 : Option V), σ = [some (.ref t), some (.int n), some (.ref p), some (.ref p4), v1, v2, none, none] ∧ i ≤ 60 ∧ SM H' H3 ∧ OB H' p4 (.lst ((dueN a b n i).map V.int)) ∧ (dueN a b n i).length ≤ i) ⟨_, _, rfl, by omega, smx, o4', Nat.le_refl _⟩ (fun _ _ _ _ => trivial) ?_ ?_
    · rintro i v σ H5 H5' hi ⟨v1, v2, rfl, hi2, s5, o5, dl⟩ ⟨rfl, hv⟩
      rw [show (0 : Int) + (i : Int) * 1 = (i : Int) by omega] at hv
      subst hv
      have bt : Bd (a * n + (i : Int)) := by
        have m1 : a * n ≤ 60 * n := Int.mul_le_mul_of_nonneg_right gg.2.1 h0
        have m0 : 0 ≤ a * n := Int.mul_nonneg (by omega) h0
        exact bd_lt (k := 400) (by omega)
      walk_at "go"
      refine rd_D (fun c1 => ?_) (fun c1 => ?_)
      · walk_at "go"
        refine rd_D (fun c2 => ?_) (fun c2 => ?_)
        · walk_at "go"
          rename_i H6 m6 o6
          have e : dueN a b n (i + 1) = dueN a b n i ++ [(a * n + (i : Int)) / b] := by
            show _ ++ _ = _
            rw [if_pos ⟨c1, c2⟩]
          exact ⟨_, _, rfl, by omega, smx, by rw [e, List.map_append]; exact o6, by rw [e, List.length_append, List.length_singleton]; omega⟩
        · walk_at "go"
          have e : dueN a b n (i + 1) = dueN a b n i := by
            show _ ++ _ = _
            rw [if_neg fun z => c2 z.2, List.append_nil]
          exact ⟨_, _, rfl, by omega, smx, by rw [e]; exact o5, by rw [e]; omega⟩
      · walk_at "go"
        have e : dueN a b n (i + 1) = dueN a b n i := by
          show _ ++ _ = _
          rw [if_neg fun z => c1 z.1, List.append_nil]
        exact ⟨_, _, rfl, by omega, smx, by rw [e]; exact o5, by rw [e]; omega⟩
    · rintro σ H5 ⟨v1, v2, rfl, hi2, s5, o5, dl⟩
      rw [due] at o5
      walk_at "go"
      refine lcMap xs (fun z => .int (b * z / a)) (it_list (xs := xs.map V.int)) (by simp) (by omega) (fun H' s => inferInstance) ?_ ?_
      · rintro i x v H' H'' hi s ⟨rfl, hv⟩ Nt Nf ht
        have e : v = .int x := by
          rw [List.getElem?_map, hi] at hv
          exact (Option.some.inj hv).symm
        subst e
        have u1 := up x (List.mem_of_getElem? hi)
        have u2 := le x (List.mem_of_getElem? hi)
        walk_at "go"
        refine go_shorter g u1.1 (bd_lt (k := 400) (by omega)) fun H9 s9 => ?_
        exact ht _ smx
      intro D6 H6 s6 f6 o6
      have e6 : xs.map (fun z => V.int (b * z / a)) = (List.replicate xs.length n).map V.int := by
        rw [List.map_replicate]
        refine List.eq_replicate_iff.mpr ⟨by simp, fun v hv => ?_⟩
        obtain ⟨z, hz, rfl⟩ := List.mem_map.mp hv
        rw [(up z hz).2]
      rw [e6] at o6
      walk_at "go"
      refine rd_strL (by rw [List.length_replicate]; omega) (fun m hm => by rw [List.eq_of_mem_replicate hm]; omega) ?_
      walk_at "go"
      rename_i p7 H7 s7 f7 o7 p8 H8 s8 f8 o8
      rw [Int.toNat_natCast] at o8
      refine rd_strL (by rw [List.length_replicate]; omega) (fun m hm => by rw [List.eq_of_mem_replicate hm]; omega) ?_
      walk_at "go"
      rename_i p9 H9 s9 f9 o9 H10 m10 o10
      refine go_next_of g h0 hb ?_
      intro p11 H11 s11 f11 o11
      rw [hxs] at o11
      walk_at "go"
      rw [decide_eq_true (rfl : xs = xs)]
      exact q _ smx
theorem sc_law : FnScope ["_law_script", "_law_by", "_law_base_here", "_law_number_here", "_law_great_here", "_law_some", "_law_row", "_law_one", "_law_every"] ["_law_script"] (defScope s_law) := ⟨rfl, rfl, rfl, by decide +kernel, rfl, by decide +kernel, by decide +kernel⟩
theorem ok_law (T : Top K mg c) {f : Addr} {fd : FuncData} (F : Fun K "law" "law" s_law f fd) : FnOkG P w K mg base CX0 5 f fd ["_law_script"] (spLaw K) := by
  have F_law_base := ok_law_base (P := P) (w := w) (base := base) T
  have F_law_great := ok_law_great (P := P) (w := w) (base := base) T
  have F_written := ok_written (P := P) (w := w) (base := base) T
  have F_law_number := ok_law_number (P := P) (w := w) (base := base) T
  have F_next_of := ok_next_of (P := P) (w := w) (base := base) T
  have F_law_cell_at := ok_law_cell_at (P := P) (w := w) (base := base) T
  have F_law_right := ok_law_right (P := P) (w := w) (base := base) T
  have F_shorter := ok_shorter (P := P) (w := w) (base := base) T
  refine okGf F sc_law (fun vs H Q E h => ?_) (fun cdv A outer s H vs Q E hr gd h => ?_)
  · obtain ⟨a, ns, rfl, _⟩ := h
    rfl
  · obtain ⟨a, ns, rfl, hS, hlen, q⟩ := h
    refine ⟨_, (pss_cons (ps_for PassesOwn.never rfl (pi_range3 rfl T.n_range (pa_cons pe_int (pa_cons (pe_callB (cr_max2B rfl) rfl T.n_max (by decide +kernel) (pa_cons pe_int (pa_cons (pe_callB (cr_min2B rfl) rfl T.n_min (by decide +kernel) (pa_cons pe_int (pa_cons (pe_callB (cr_lenRB (K := K) rfl) rfl T.n_len (by decide +kernel) (pa_cons (pv 0) pa_nil)) pa_nil))) pa_nil))) (pa_cons pe_int pa_nil)))) (pg_name (i := 1) sc_law.nd rfl (Or.inl rfl))
      (pss_cons (ps_set (i := 2) sc_law.nd rfl (Or.inl rfl) (pe_fn F_law_base hr rfl (pa_cons (pv 0) (pa_cons (pv 1) pa_nil))))
      (pss_cons (ps_set (i := 3) sc_law.nd rfl (Or.inl rfl) (pe_fn F_law_great hr rfl (pa_cons (pv 0) (pa_cons (pv 1) (pa_cons (pv 2) pa_nil)))))
      (pss_cons (ps_set (i := 4) sc_law.nd rfl (Or.inl rfl) (pe_op op_add (pe_op op_mulW (pe_op (op_powL 10 60) pe_int pe_int) (pe_op (op_powL 10 10) pe_int pe_int)) (pe_fn F_law_number hr rfl (pa_cons (pe_fn F_law_cell_at hr rfl (pa_cons (pv 0) (pa_cons (pv 1) pa_nil))) (pa_cons (pv 1) (pa_cons (pe_op (op_powL 10 9) pe_int pe_int) pa_nil))))))
      (pss_cons (ps_for PassesOwn.never rfl (pi_tupK (K := K) rfl (pe_tupB (pa_cons (pv 3) (pa_cons (pe_op op_add (pv 3) pe_int) (pa_cons pe_int (pa_cons pe_int (pa_cons (pv 4) pa_nil))))))) (pg_name (i := 5) sc_law.nd rfl (Or.inl rfl))
      (pss_one (ps_if (pt_not (pt_val (pe_fnG F_law_right hr gd rfl (pa_cons (pv 2) (pa_cons (pv 5) pa_nil))))) (pss_one (ps_ret pe_bl)) pss_nil)))
      (pss_cons (ps_set (i := 6) sc_law.nd rfl (Or.inl rfl) (pe_fn F_written hr rfl (pa_cons (pv 2) (pa_cons (pv 3) pa_nil))))
      (pss_cons (ps_for PassesOwn.never rfl (pi_listK (K := K) rfl (pe_slice sl_listB (pe_fn F_next_of hr rfl (pa_cons (pv 2) (pa_cons (pv 3) pa_nil))) po_none (po_some pe_int))) (pg_name (i := 7) sc_law.nd rfl (Or.inl rfl))
      (pss_one (ps_if (pt_cmpR (op_neB (K := K) rfl hr.units) (pe_slice sl_listB (pe_fn F_written hr rfl (pa_cons (pv 2) (pa_cons (pv 7) pa_nil))) po_none (po_some (pe_un un_neg pe_int))) (pv 6) (nomark _)) (pss_one (ps_ret pe_bl)) pss_nil)))
      (pss_cons (ps_set (i := 8) sc_law.nd rfl (Or.inl rfl) (pe_lstB pa_nil))
      (pss_cons (ps_for PassesOwn.never rfl (pi_range1 rfl T.n_range (pa_cons pe_int pa_nil)) (pg_name (i := 5) sc_law.nd rfl (Or.inl rfl))
      (pss_one (ps_set (i := 8) sc_law.nd rfl (Or.inl rfl) (pe_op op_catB (pv 8) (pe_fn F_next_of hr rfl (pa_cons (pv 2) (pa_cons (pv 5) pa_nil)))))))
      (pss_one (ps_if (pt_cmpR (op_neB (K := K) rfl hr.units) (pv 8) (pe_listR2 rfl rfl T.n_list rfl T.n_range (pa_cons pe_int (pa_cons (pe_op op_add (pe_callB cr_lenB rfl T.n_len (by decide +kernel) (pa_cons (pv 8) pa_nil)) pe_int) pa_nil))) (nomark _)) (pss_one (ps_ret pe_bl)) pss_nil)))))))))))
      (pss_one (ps_ret (pe_and (pe_cmpR (op_eqB (K := K) rfl hr.units) (pe_fn F_next_of hr rfl (pa_cons (pe_tupB (pa_cons pe_int (pa_cons pe_int pa_nil))) (pa_cons pe_int pa_nil))) (pe_lstB (pa_cons pe_int pa_nil)) (nomark _)) (pe_and (pe_cmpR (op_eqB (K := K) rfl hr.units) (pe_fn F_next_of hr rfl (pa_cons (pe_tupB (pa_cons pe_int (pa_cons pe_int pa_nil))) (pa_cons pe_int pa_nil))) (pe_lstB (pa_cons pe_int (pa_cons pe_int pa_nil))) (nomark _)) (pe_one (pe_cmpR op_eq (pe_callTy (cr_strL gd hr.units) rfl T.n_str (by decide +kernel) (pa_cons (pe_lstB (pa_cons (pe_fn F_shorter hr rfl (pa_cons (pe_tupB (pa_cons pe_int (pa_cons pe_int pa_nil))) (pa_cons pe_int pa_nil))) pa_nil)) pa_nil)) pe_str (nomark _)))))))), ?_⟩
    walk_at "go"
    obtain ⟨n, hn2, hrg⟩ := rg8 (j := max 1 (min 8 (ns.length : Int))) (by omega) (by omega)
    refine rd_kR3 hrg ?_
    refine forM it_rangeC (fun i σ H' => ∃ o1 o2 o3 o4 o5 o6 o7 o8, σ = [some (.ref a), o1, o2, o3, o4, o5, o6, o7, o8] ∧ SM H' H) ⟨_, _, _, _, _, _, _, _, rfl, smx⟩ (fun _ _ _ _ => trivial) ?_ ?_
    · rintro i v σ H1 H1' hi ⟨o1, o2, o3, o4, o5, o6, o7, o8, rfl, s1⟩ ⟨rfl, rfl⟩
      walk_at "go"
      refine go_law_base (by omega) (by omega) fun x y g => ?_
      intro t H2 s2 f2 ob
      have gg := g.ok
      walk_at "go"
      refine go_law_great (by omega) (by omega) g fun r H3 hr s3 => ?_
      obtain ⟨hr0, hr1, hr2⟩ := hr
      walk_at "go"
      refine go_law_cell_at (by omega) fun cc => ?_
      walk_at "go"
      refine go_law_number (bd_s (by omega)) (by omega) (by omega) (by omega) fun r2 H4 hr3 hr4 s4 => ?_
      walk_at "go"
      rename_i pt H5 s5 f5 o5'
      refine forM it_tup (fun k σ H' => ∃ o5 o6 o7 o8, σ = [some (.ref a), some (.int (0 + (i : Int) * 4)), some (.ref t), some (.int r), some (.int (10 ^ 60 * 10 ^ 10 + r2)), o5, o6, o7, o8] ∧ SM H' H5) ⟨_, _, _, _, rfl, smx⟩ (fun _ _ _ ⟨_, _, _, _, _, _⟩ => inferInstance) ?_ ?_
      · rintro k v σ H6 H6' hk ⟨o5, o6, o7, o8, rfl, s6⟩ ⟨rfl, hv⟩
        obtain ⟨z, rfl, z0, z1⟩ : ∃ z, v = .int z ∧ 0 ≤ z ∧ z < 10 ^ 80 := by
          have m := List.mem_of_getElem? hv
          simp only [List.mem_cons, List.not_mem_nil, or_false] at m
          rcases m with rfl | rfl | rfl | rfl | rfl
          · exact ⟨_, rfl, by omega, by omega⟩
          · exact ⟨_, rfl, by omega, by omega⟩
          · exact ⟨_, rfl, by omega, by omega⟩
          · exact ⟨_, rfl, by omega, by omega⟩
          · exact ⟨_, rfl, by omega, by omega⟩
        walk_at "go"
        refine go_law_right g z0 z1 fun H7 s7 => ?_
        walk_at "go"
        exact ⟨_, _, _, _, rfl, smx⟩
      · rintro σ H6 ⟨o5, o6, o7, o8, rfl, s6⟩
        have hz : Bd r := bd_lt (k := 200) (by omega)
        walk_at "go"
        refine go_written g hr0 hz (row_great g hr0 (by omega) (by omega)) ?_
        intro p7 H7 s7 f7 o7x
        walk_at "go"
        refine go_next_of g hr0 hz ?_
        intro p8 H8 s8 f8 o8x
        have up := fun z (h : z ∈ nxt x y r) => nxt_up g hr0 h
        have le := fun z (h : z ∈ nxt x y r) => nxt_le g hr0 h
        generalize nxt x y r = xs at *
        walk_at "go"
        rename_i p9 H9 s9 f9 o9x
        rw [cut_map] at o9x
        have sub := fun z (h : z ∈ cutI xs none (some 3)) => up z (cut_mem h)
        have sub2 := fun z (h : z ∈ cutI xs none (some 3)) => le z (cut_mem h)
        generalize cutI xs none (some 3) = cs at *
        refine forM (it_list (xs := cs.map V.int)) (fun k σ H' => ∃ o7 o8, σ = [some (.ref a), some (.int (0 + (i : Int) * 4)), some (.ref t), some (.int r), some (.int (10 ^ 60 * 10 ^ 10 + r2)), o5, some (.ref p7), o7, o8] ∧ SM H' H9) ⟨_, _, rfl, smx⟩ (fun _ _ _ ⟨_, _, _, _⟩ => inferInstance) ?_ ?_
        · rintro k v σ H10 H10' hk ⟨o7, o8, rfl, s10⟩ ⟨rfl, hv⟩
          obtain ⟨z, rfl, hz1, hz2, hz3⟩ : ∃ z, v = .int z ∧ 1 ≤ z ∧ y * z / x = r ∧ z ≤ 60 * r + 60 := by
            have m := List.mem_of_getElem? hv
            obtain ⟨z, hz, rfl⟩ := List.mem_map.mp m
            exact ⟨z, rfl, (sub z hz).1, (sub z hz).2, sub2 z hz⟩
          have st := row_step g.b1 g.ba (show 0 < z by omega)
          rw [hz2] at st
          have ln : (row x y z).length ≤ 2000 := by
            have := row_great2 g hr0 (by omega) hr2
            rw [st, List.length_append, List.length_singleton]
            omega
          walk_at "go"
          refine go_written g (by omega) (bd_lt (k := 200) (by omega)) ln ?_
          rw [st]
          intro p11 H11 s11 f11 o11x
          walk_at "go"
          rw [cut_init]
          walk_at "go"
          exact ⟨_, _, rfl, smx⟩
        · rintro σ H10 ⟨o7, o8, rfl, s10⟩
          walk_at "go"
          rename_i p11 H11 s11 f11 o11x
          have o11y : OB H11 p11 (.lst ((rgI 1 ((x * ((0 : Nat) : Int) - 1) / y + 1)).map V.int)) := by
            rw [rgI_nil]
            · exact o11x
            · have : (x * ((0 : Nat) : Int) - 1) / y < 1 := Int.ediv_lt_of_lt_mul (by omega) (by simp; omega)
              have : (x * ((0 : Nat) : Int) - 1) / y ≤ 0 := by omega
              omega
          clear o11x
          refine forM it_range (fun k σ H' => ∃ (o5 : Option V) (p : Addr), σ = [some (.ref a), some (.int (0 + (i : Int) * 4)), some (.ref t), some (.int r), some (.int (10 ^ 60 * 10 ^ 10 + r2)), o5, some (.ref p7), o7, some (.ref p)] ∧ k ≤ 12 ∧ (rgI 1 ((x * (k : Int) - 1) / y + 1)).length ≤ 60 * k ∧ OB H' p (.lst ((rgI 1 ((x * (k : Int) - 1) / y + 1)).map V.int)) ∧ SM H' H10) ⟨_, _, rfl, by omega, ?_, o11y, smx⟩ (fun _ _ _ _ => trivial) ?_ ?_
          · have : (x * ((0 : Nat) : Int) - 1) / y < 1 := Int.ediv_lt_of_lt_mul (by omega) (by simp; omega)
            rw [rgI_len]
            omega
          · rintro k v σ H12 H12' hk ⟨o5, p, rfl, hk2, hlen, o12x, s12⟩ ⟨rfl, hv⟩
            rw [show (0 : Int) + (k : Int) * 1 = (k : Int) by omega] at hv
            subst hv
            have nh := nxt_head g (n := (k : Int)) (by omega) k rfl
            have nl := nxt_len g (n := (k : Int)) (by omega)
            walk_at "go"
            refine go_next_of g (by omega) (bd_s (by omega)) ?_
            intro p13 H13 s13 f13 o13x
            walk_at "go"
            rename_i p14 H14 s14 f14 o14x
            rw [← List.map_append, nh] at o14x
            refine ⟨_, _, rfl, by omega, ?_, o14x, smx⟩
            rw [← nh, List.length_append]
            omega
          · rintro σ H12 ⟨o5, p, rfl, hk2, hlen, o12x, s12⟩
            have tp : 1 ≤ (x * (((12 : Int).toNat : Nat) : Int) - 1) / y + 1 := by
              have := Int.ediv_nonneg (show 0 ≤ x * (((12 : Int).toNat : Nat) : Int) - 1 by simp; omega) (show 0 ≤ y by omega)
              omega
            have rl := rgI_len 1 ((x * (((12 : Int).toNat : Nat) : Int) - 1) / y + 1)
            generalize (x * (((12 : Int).toNat : Nat) : Int) - 1) / y + 1 = T at *
            walk_at "go"
            refine rd_kLR2 (by omega) ?_
            rw [show (((rgI 1 T).length : Nat) : Int) + 1 = T by omega]
            intro p13 H13 s13 f13 o13x
            walk_at "go"
            exact ⟨_, _, _, _, _, _, _, _, rfl, smx⟩
    · rintro σ H1 ⟨o1, o2, o3, o4, o5, o6, o7, o8, rfl, s1⟩
      walk_at "go"
      refine go_next_of ⟨by decide, by decide, by decide, by decide, by decide⟩ (by decide) (bd_s (by decide)) ?_
      rw [show nxt 3 2 0 = [1] by decide +kernel]
      intro p2 H2 s2 f2 o2x
      walk_at "go"
      refine go_next_of ⟨by decide, by decide, by decide, by decide, by decide⟩ (by decide) (bd_s (by decide)) ?_
      rw [show nxt 3 2 2 = [3, 4] by decide +kernel]
      intro p3 H3 s3 f3 o3x
      walk_at "go"
      refine go_shorter ⟨by decide, by decide, by decide, by decide, by decide⟩ (by decide) (bd_s (by decide)) fun H4 s4 => ?_
      rw [show (2 : Int) * 7 / 3 = 4 by decide]
      walk_at "go"
      rw [decide_eq_true (show PyData.shown (dI [4]) = "[4]" by decide +kernel)]
      exact q _
end
theorem all_mk {l : PySem.W.OpenLaw} {w : World} {K : PySem.W.Frag} {h : Heap} {mg : Str → Option Value} {fa : Addr} (X : K.In h) (G : h.Ns mainGlobals mg) (hfa : mg "law" = some (.ref fa))
    {od0 an0 : Option Addr} {sl0 : Array (Option Value)} {oc0 kV0 dc0 pm0 cd0 ct0 : Value} {f0 : Addr} (a0 : PySem.W.nsIn K mainGlobals "is_whole" = some (some (.ref f0))) (l0 : K.lookup f0 = some ⟨oc0, od0, .func (PySem.W.fnOf "is_whole" "is_whole" (defArgs s_is_whole) (defBody s_is_whole) (defScope s_is_whole) .none kV0 dc0 pm0 an0 cd0 ct0), sl0⟩) (c0 : PySem.W.codeIn K cd0 "is_whole" = true) (k0 : PySem.W.keepIn K (.ref f0) = true)
    {od1 an1 : Option Addr} {sl1 : Array (Option Value)} {oc1 kV1 dc1 pm1 cd1 ct1 : Value} {f1 : Addr} (a1 : PySem.W.nsIn K mainGlobals "common" = some (some (.ref f1))) (l1 : K.lookup f1 = some ⟨oc1, od1, .func (PySem.W.fnOf "common" "common" (defArgs s_common) (defBody s_common) (defScope s_common) .none kV1 dc1 pm1 an1 cd1 ct1), sl1⟩) (c1 : PySem.W.codeIn K cd1 "common" = true) (k1 : PySem.W.keepIn K (.ref f1) = true)
    {od2 an2 : Option Addr} {sl2 : Array (Option Value)} {oc2 kV2 dc2 pm2 cd2 ct2 : Value} {f2 : Addr} (a2 : PySem.W.nsIn K mainGlobals "check_base" = some (some (.ref f2))) (l2 : K.lookup f2 = some ⟨oc2, od2, .func (PySem.W.fnOf "check_base" "check_base" (defArgs s_check_base) (defBody s_check_base) (defScope s_check_base) .none kV2 dc2 pm2 an2 cd2 ct2), sl2⟩) (c2 : PySem.W.codeIn K cd2 "check_base" = true) (k2 : PySem.W.keepIn K (.ref f2) = true)
    {od3 an3 : Option Addr} {sl3 : Array (Option Value)} {oc3 kV3 dc3 pm3 cd3 ct3 : Value} {f3 : Addr} (a3 : PySem.W.nsIn K mainGlobals "check_number" = some (some (.ref f3))) (l3 : K.lookup f3 = some ⟨oc3, od3, .func (PySem.W.fnOf "check_number" "check_number" (defArgs s_check_number) (defBody s_check_number) (defScope s_check_number) .none kV3 dc3 pm3 an3 cd3 ct3), sl3⟩) (c3 : PySem.W.codeIn K cd3 "check_number" = true) (k3 : PySem.W.keepIn K (.ref f3) = true)
    {od4 an4 : Option Addr} {sl4 : Array (Option Value)} {oc4 kV4 dc4 pm4 cd4 ct4 : Value} {f4 : Addr} (a4 : PySem.W.nsIn K mainGlobals "parted" = some (some (.ref f4))) (l4 : K.lookup f4 = some ⟨oc4, od4, .func (PySem.W.fnOf "parted" "parted" (defArgs s_parted) (defBody s_parted) (defScope s_parted) .none kV4 dc4 pm4 an4 cd4 ct4), sl4⟩) (c4 : PySem.W.codeIn K cd4 "parted" = true) (k4 : PySem.W.keepIn K (.ref f4) = true)
    {od5 an5 : Option Addr} {sl5 : Array (Option Value)} {oc5 kV5 dc5 pm5 cd5 ct5 : Value} {f5 : Addr} (a5 : PySem.W.nsIn K mainGlobals "least_below" = some (some (.ref f5))) (l5 : K.lookup f5 = some ⟨oc5, od5, .func (PySem.W.fnOf "least_below" "least_below" (defArgs s_least_below) (defBody s_least_below) (defScope s_least_below) .none kV5 dc5 pm5 an5 cd5 ct5), sl5⟩) (c5 : PySem.W.codeIn K cd5 "least_below" = true) (k5 : PySem.W.keepIn K (.ref f5) = true)
    {od6 an6 : Option Addr} {sl6 : Array (Option Value)} {oc6 kV6 dc6 pm6 cd6 ct6 : Value} {f6 : Addr} (a6 : PySem.W.nsIn K mainGlobals "greatest_below" = some (some (.ref f6))) (l6 : K.lookup f6 = some ⟨oc6, od6, .func (PySem.W.fnOf "greatest_below" "greatest_below" (defArgs s_greatest_below) (defBody s_greatest_below) (defScope s_greatest_below) .none kV6 dc6 pm6 an6 cd6 ct6), sl6⟩) (c6 : PySem.W.codeIn K cd6 "greatest_below" = true) (k6 : PySem.W.keepIn K (.ref f6) = true)
    {od7 an7 : Option Addr} {sl7 : Array (Option Value)} {oc7 kV7 dc7 pm7 cd7 ct7 : Value} {f7 : Addr} (a7 : PySem.W.nsIn K mainGlobals "shorter" = some (some (.ref f7))) (l7 : K.lookup f7 = some ⟨oc7, od7, .func (PySem.W.fnOf "shorter" "shorter" (defArgs s_shorter) (defBody s_shorter) (defScope s_shorter) .none kV7 dc7 pm7 an7 cd7 ct7), sl7⟩) (c7 : PySem.W.codeIn K cd7 "shorter" = true) (k7 : PySem.W.keepIn K (.ref f7) = true)
    {od8 an8 : Option Addr} {sl8 : Array (Option Value)} {oc8 kV8 dc8 pm8 cd8 ct8 : Value} {f8 : Addr} (a8 : PySem.W.nsIn K mainGlobals "next_of" = some (some (.ref f8))) (l8 : K.lookup f8 = some ⟨oc8, od8, .func (PySem.W.fnOf "next_of" "next_of" (defArgs s_next_of) (defBody s_next_of) (defScope s_next_of) .none kV8 dc8 pm8 an8 cd8 ct8), sl8⟩) (c8 : PySem.W.codeIn K cd8 "next_of" = true) (k8 : PySem.W.keepIn K (.ref f8) = true)
    {od9 an9 : Option Addr} {sl9 : Array (Option Value)} {oc9 kV9 dc9 pm9 cd9 ct9 : Value} {f9 : Addr} (a9 : PySem.W.nsIn K mainGlobals "row_of" = some (some (.ref f9))) (l9 : K.lookup f9 = some ⟨oc9, od9, .func (PySem.W.fnOf "row_of" "row_of" (defArgs s_row_of) (defBody s_row_of) (defScope s_row_of) .none kV9 dc9 pm9 an9 cd9 ct9), sl9⟩) (c9 : PySem.W.codeIn K cd9 "row_of" = true) (k9 : PySem.W.keepIn K (.ref f9) = true)
    {od10 an10 : Option Addr} {sl10 : Array (Option Value)} {oc10 kV10 dc10 pm10 cd10 ct10 : Value} {f10 : Addr} (a10 : PySem.W.nsIn K mainGlobals "written" = some (some (.ref f10))) (l10 : K.lookup f10 = some ⟨oc10, od10, .func (PySem.W.fnOf "written" "written" (defArgs s_written) (defBody s_written) (defScope s_written) .none kV10 dc10 pm10 an10 cd10 ct10), sl10⟩) (c10 : PySem.W.codeIn K cd10 "written" = true) (k10 : PySem.W.keepIn K (.ref f10) = true)
    {od11 an11 : Option Addr} {sl11 : Array (Option Value)} {oc11 kV11 dc11 pm11 cd11 ct11 : Value} {f11 : Addr} (a11 : PySem.W.nsIn K mainGlobals "_law_cell_at" = some (some (.ref f11))) (l11 : K.lookup f11 = some ⟨oc11, od11, .func (PySem.W.fnOf "_law_cell_at" "_law_cell_at" (defArgs s_law_cell_at) (defBody s_law_cell_at) (defScope s_law_cell_at) .none kV11 dc11 pm11 an11 cd11 ct11), sl11⟩) (c11 : PySem.W.codeIn K cd11 "_law_cell_at" = true) (k11 : PySem.W.keepIn K (.ref f11) = true)
    {od12 an12 : Option Addr} {sl12 : Array (Option Value)} {oc12 kV12 dc12 pm12 cd12 ct12 : Value} {f12 : Addr} (a12 : PySem.W.nsIn K mainGlobals "_law_draw" = some (some (.ref f12))) (l12 : K.lookup f12 = some ⟨oc12, od12, .func (PySem.W.fnOf "_law_draw" "_law_draw" (defArgs s_law_draw) (defBody s_law_draw) (defScope s_law_draw) .none kV12 dc12 pm12 an12 cd12 ct12), sl12⟩) (c12 : PySem.W.codeIn K cd12 "_law_draw" = true) (k12 : PySem.W.keepIn K (.ref f12) = true)
    {od13 an13 : Option Addr} {sl13 : Array (Option Value)} {oc13 kV13 dc13 pm13 cd13 ct13 : Value} {f13 : Addr} (a13 : PySem.W.nsIn K mainGlobals "_law_number" = some (some (.ref f13))) (l13 : K.lookup f13 = some ⟨oc13, od13, .func (PySem.W.fnOf "_law_number" "_law_number" (defArgs s_law_number) (defBody s_law_number) (defScope s_law_number) .none kV13 dc13 pm13 an13 cd13 ct13), sl13⟩) (c13 : PySem.W.codeIn K cd13 "_law_number" = true) (k13 : PySem.W.keepIn K (.ref f13) = true)
    {od14 an14 : Option Addr} {sl14 : Array (Option Value)} {oc14 kV14 dc14 pm14 cd14 ct14 : Value} {f14 : Addr} (a14 : PySem.W.nsIn K mainGlobals "_law_common" = some (some (.ref f14))) (l14 : K.lookup f14 = some ⟨oc14, od14, .func (PySem.W.fnOf "_law_common" "_law_common" (defArgs s_law_common) (defBody s_law_common) (defScope s_law_common) .none kV14 dc14 pm14 an14 cd14 ct14), sl14⟩) (c14 : PySem.W.codeIn K cd14 "_law_common" = true) (k14 : PySem.W.keepIn K (.ref f14) = true)
    {od15 an15 : Option Addr} {sl15 : Array (Option Value)} {oc15 kV15 dc15 pm15 cd15 ct15 : Value} {f15 : Addr} (a15 : PySem.W.nsIn K mainGlobals "_law_base" = some (some (.ref f15))) (l15 : K.lookup f15 = some ⟨oc15, od15, .func (PySem.W.fnOf "_law_base" "_law_base" (defArgs s_law_base) (defBody s_law_base) (defScope s_law_base) .none kV15 dc15 pm15 an15 cd15 ct15), sl15⟩) (c15 : PySem.W.codeIn K cd15 "_law_base" = true) (k15 : PySem.W.keepIn K (.ref f15) = true)
    {od16 an16 : Option Addr} {sl16 : Array (Option Value)} {oc16 kV16 dc16 pm16 cd16 ct16 : Value} {f16 : Addr} (a16 : PySem.W.nsIn K mainGlobals "_law_great" = some (some (.ref f16))) (l16 : K.lookup f16 = some ⟨oc16, od16, .func (PySem.W.fnOf "_law_great" "_law_great" (defArgs s_law_great) (defBody s_law_great) (defScope s_law_great) .none kV16 dc16 pm16 an16 cd16 ct16), sl16⟩) (c16 : PySem.W.codeIn K cd16 "_law_great" = true) (k16 : PySem.W.keepIn K (.ref f16) = true)
    {od17 an17 : Option Addr} {sl17 : Array (Option Value)} {oc17 kV17 dc17 pm17 cd17 ct17 : Value} {f17 : Addr} (a17 : PySem.W.nsIn K mainGlobals "_law_whole" = some (some (.ref f17))) (l17 : K.lookup f17 = some ⟨oc17, od17, .func (PySem.W.fnOf "_law_whole" "_law_whole" (defArgs s_law_whole) (defBody s_law_whole) (defScope s_law_whole) .none kV17 dc17 pm17 an17 cd17 ct17), sl17⟩) (c17 : PySem.W.codeIn K cd17 "_law_whole" = true) (k17 : PySem.W.keepIn K (.ref f17) = true)
    {od18 an18 : Option Addr} {sl18 : Array (Option Value)} {oc18 kV18 dc18 pm18 cd18 ct18 : Value} {f18 : Addr} (a18 : PySem.W.nsIn K mainGlobals "_law_right" = some (some (.ref f18))) (l18 : K.lookup f18 = some ⟨oc18, od18, .func (PySem.W.fnOf "_law_right" "_law_right" (defArgs s_law_right) (defBody s_law_right) (defScope s_law_right) .none kV18 dc18 pm18 an18 cd18 ct18), sl18⟩) (c18 : PySem.W.codeIn K cd18 "_law_right" = true) (k18 : PySem.W.keepIn K (.ref f18) = true)
    {od19 an19 : Option Addr} {sl19 : Array (Option Value)} {oc19 kV19 dc19 pm19 cd19 ct19 : Value} {f19 : Addr} (a19 : PySem.W.nsIn K mainGlobals "law" = some (some (.ref f19))) (l19 : K.lookup f19 = some ⟨oc19, od19, .func (PySem.W.fnOf "law" "law" (defArgs s_law) (defBody s_law) (defScope s_law) .none kV19 dc19 pm19 an19 cd19 ct19), sl19⟩) (c19 : PySem.W.codeIn K cd19 "law" = true) (k19 : PySem.W.keepIn K (.ref f19) = true)
    (z0 : PySem.W.nsIn K mainGlobals "isinstance" = some none)
    (z1 : PySem.W.nsIn K mainGlobals "int" = some none)
    (z2 : PySem.W.nsIn K mainGlobals "bool" = some none)
    (z3 : PySem.W.nsIn K mainGlobals "tuple" = some none)
    (z4 : PySem.W.nsIn K mainGlobals "list" = some none)
    (z5 : PySem.W.nsIn K mainGlobals "len" = some none)
    (z6 : PySem.W.nsIn K mainGlobals "all" = some none)
    (z7 : PySem.W.nsIn K mainGlobals "max" = some none)
    (z8 : PySem.W.nsIn K mainGlobals "min" = some none)
    (z9 : PySem.W.nsIn K mainGlobals "range" = some none)
    (z10 : PySem.W.nsIn K mainGlobals "sorted" = some none)
    (z11 : PySem.W.nsIn K mainGlobals "set" = some none)
    (z12 : PySem.W.nsIn K mainGlobals "str" = some none)
    {t0 : Tok} (q0 : PySem.W.nsIn K mainGlobals "GREATEST" = some (some (.int 60 t0)))
    {t1 : Tok} (q1 : PySem.W.nsIn K mainGlobals "MOST" = some (some (.int 2000 t1))) :
    ∃ fd : FuncData, (∀ (s : Shared) (v : Value), BindsTo s fd ⟨[v], []⟩ [("_law_script", v)]) ∧ ∀ base : Heap, K.In base → base.Ns mainGlobals mg → FnOkG l.prog w K mg base CX0 5 fa fd ["_law_script"] (spLaw K) := by
  have e := hfa.symm.trans (PySem.W.mg_of X G a19)
  cases e
  have T : Top K mg (fun n => ([0, 0, 0, 0, 0, 0, 0, 0, 0, 0, 0, 0, 0] : List Addr).getD n 0) := ⟨⟨f0, _, PySem.W.mg_of X G a0, fun_mk (st := s_is_whole) l0 c0 k0, (fun_mk (st := s_is_whole) l0 c0 k0).binds fun _ _ _ _ _ _ us hl => match us, hl with | [_], _ => rfl⟩,
    ⟨f1, _, PySem.W.mg_of X G a1, fun_mk (st := s_common) l1 c1 k1, (fun_mk (st := s_common) l1 c1 k1).binds fun _ _ _ _ _ _ us hl => match us, hl with | [_, _], _ => rfl⟩,
    ⟨f2, _, PySem.W.mg_of X G a2, fun_mk (st := s_check_base) l2 c2 k2, (fun_mk (st := s_check_base) l2 c2 k2).binds fun _ _ _ _ _ _ us hl => match us, hl with | [_], _ => rfl⟩,
    ⟨f3, _, PySem.W.mg_of X G a3, fun_mk (st := s_check_number) l3 c3 k3, (fun_mk (st := s_check_number) l3 c3 k3).binds fun _ _ _ _ _ _ us hl => match us, hl with | [_, _], _ => rfl⟩,
    ⟨f4, _, PySem.W.mg_of X G a4, fun_mk (st := s_parted) l4 c4 k4, (fun_mk (st := s_parted) l4 c4 k4).binds fun _ _ _ _ _ _ us hl => match us, hl with | [_, _], _ => rfl⟩,
    ⟨f5, _, PySem.W.mg_of X G a5, fun_mk (st := s_least_below) l5 c5 k5, (fun_mk (st := s_least_below) l5 c5 k5).binds fun _ _ _ _ _ _ us hl => match us, hl with | [_, _], _ => rfl⟩,
    ⟨f6, _, PySem.W.mg_of X G a6, fun_mk (st := s_greatest_below) l6 c6 k6, (fun_mk (st := s_greatest_below) l6 c6 k6).binds fun _ _ _ _ _ _ us hl => match us, hl with | [_, _], _ => rfl⟩,
    ⟨f7, _, PySem.W.mg_of X G a7, fun_mk (st := s_shorter) l7 c7 k7, (fun_mk (st := s_shorter) l7 c7 k7).binds fun _ _ _ _ _ _ us hl => match us, hl with | [_, _], _ => rfl⟩,
    ⟨f8, _, PySem.W.mg_of X G a8, fun_mk (st := s_next_of) l8 c8 k8, (fun_mk (st := s_next_of) l8 c8 k8).binds fun _ _ _ _ _ _ us hl => match us, hl with | [_, _], _ => rfl⟩,
    ⟨f9, _, PySem.W.mg_of X G a9, fun_mk (st := s_row_of) l9 c9 k9, (fun_mk (st := s_row_of) l9 c9 k9).binds fun _ _ _ _ _ _ us hl => match us, hl with | [_, _], _ => rfl⟩,
    ⟨f10, _, PySem.W.mg_of X G a10, fun_mk (st := s_written) l10 c10 k10, (fun_mk (st := s_written) l10 c10 k10).binds fun _ _ _ _ _ _ us hl => match us, hl with | [_, _], _ => rfl⟩,
    ⟨f11, _, PySem.W.mg_of X G a11, fun_mk (st := s_law_cell_at) l11 c11 k11, (fun_mk (st := s_law_cell_at) l11 c11 k11).binds fun _ _ _ _ _ _ us hl => match us, hl with | [_, _], _ => rfl⟩,
    ⟨f12, _, PySem.W.mg_of X G a12, fun_mk (st := s_law_draw) l12 c12 k12, (fun_mk (st := s_law_draw) l12 c12 k12).binds fun _ _ _ _ _ _ us hl => match us, hl with | [_, _, _], _ => rfl⟩,
    ⟨f13, _, PySem.W.mg_of X G a13, fun_mk (st := s_law_number) l13 c13 k13, (fun_mk (st := s_law_number) l13 c13 k13).binds fun _ _ _ _ _ _ us hl => match us, hl with | [_, _, _], _ => rfl⟩,
    ⟨f14, _, PySem.W.mg_of X G a14, fun_mk (st := s_law_common) l14 c14 k14, (fun_mk (st := s_law_common) l14 c14 k14).binds fun _ _ _ _ _ _ us hl => match us, hl with | [_, _], _ => rfl⟩,
    ⟨f15, _, PySem.W.mg_of X G a15, fun_mk (st := s_law_base) l15 c15 k15, (fun_mk (st := s_law_base) l15 c15 k15).binds fun _ _ _ _ _ _ us hl => match us, hl with | [_, _], _ => rfl⟩,
    ⟨f16, _, PySem.W.mg_of X G a16, fun_mk (st := s_law_great) l16 c16 k16, (fun_mk (st := s_law_great) l16 c16 k16).binds fun _ _ _ _ _ _ us hl => match us, hl with | [_, _, _], _ => rfl⟩,
    ⟨f17, _, PySem.W.mg_of X G a17, fun_mk (st := s_law_whole) l17 c17 k17, (fun_mk (st := s_law_whole) l17 c17 k17).binds fun _ _ _ _ _ _ us hl => match us, hl with | [_], _ => rfl⟩,
    ⟨f18, _, PySem.W.mg_of X G a18, fun_mk (st := s_law_right) l18 c18 k18, (fun_mk (st := s_law_right) l18 c18 k18).binds fun _ _ _ _ _ _ us hl => match us, hl with | [_, _], _ => rfl⟩,
    PySem.W.mg_none_of X G z0,
    PySem.W.mg_none_of X G z1,
    PySem.W.mg_none_of X G z2,
    PySem.W.mg_none_of X G z3,
    PySem.W.mg_none_of X G z4,
    PySem.W.mg_none_of X G z5,
    PySem.W.mg_none_of X G z6,
    PySem.W.mg_none_of X G z7,
    PySem.W.mg_none_of X G z8,
    PySem.W.mg_none_of X G z9,
    PySem.W.mg_none_of X G z10,
    PySem.W.mg_none_of X G z11,
    PySem.W.mg_none_of X G z12,
    ⟨_, PySem.W.mg_of X G q0⟩,
    ⟨_, PySem.W.mg_of X G q1⟩⟩
  exact ⟨PySem.W.fnOf "law" "law" (defArgs s_law) (defBody s_law) (defScope s_law) .none kV19 dc19 pm19 an19 cd19 ct19, fun s v => .of_eq rfl, fun base _ _ => ok_law T (fun_mk (st := s_law) l19 c19 k19)⟩
theorem walk {l : PySem.W.OpenLaw} {q : Program} {loose : List Str} {XP : (Str → Option Value) → Heap → Prop} {YP : World → Heap → Prop} {d : DefRec} {K : Params → PySem.W.Frag} (hn : l.most = some 63) (hdf : d.params.defaults = [])
    (hY : ∀ (w : World) (h : Heap), YP w h → (K w.params).In h)
    (F : ∀ (w : World) (mg : Str → Option Value) (fa : Addr) (h : Heap), (K w.params).In h → h.Ns mainGlobals mg → mg d.name = some (.ref fa) →
      ∃ fd : FuncData, (∀ (s : Shared) (u : Value), BindsTo s fd ⟨[u], []⟩ [("_law_script", u)]) ∧ ∀ base : Heap, (K w.params).In base → base.Ns mainGlobals mg → FnOkG l.prog w (K w.params) mg base CX0 5 fa fd ["_law_script"] (spLaw (K w.params))) :
    PySem.W.WalkO q loose XP YP l.row.toRowW d [] (fun f vs => PySem.call f vs) :=
  walkG_of (n := 63) (k := 5) (x := "_law_script") (sp := fun w => spLaw (K w.params)) hn (by decide) hdf ⟨rfl, by decide, by decide⟩ hY F fun _ _ a ns hl hS => ⟨a, ns, rfl, ⟨hS⟩, hl, fun _ => rfl⟩
end Bb
open PySem PySem.W PyProof.Rows
set_option maxRecDepth 100000 in
set_option maxHeartbeats 0 in
theorem PySem.Challenge.cw_brokenbase_k14_whole_tree_holds : PySem.Challenge.rw_brokenbase_k14_whole_tree.Holds := by
  w_on; o_law; k_head; (case hw => w_witness2)
  k_fill
  refine Bb.walk (l := PySem.Challenge.rw_brokenbase_k14_whole_tree) rfl rfl (fun w h Y => PySem.W.kIn_of Y) ?F
  case F =>
    intro w mg fa h KX G hmg
    refine' Bb.all_mk KX G hmg ?a0 ?l0 ?c0 ?k0 ?a1 ?l1 ?c1 ?k1 ?a2 ?l2 ?c2 ?k2 ?a3 ?l3 ?c3 ?k3 ?a4 ?l4 ?c4 ?k4 ?a5 ?l5 ?c5 ?k5 ?a6 ?l6 ?c6 ?k6 ?a7 ?l7 ?c7 ?k7 ?a8 ?l8 ?c8 ?k8 ?a9 ?l9 ?c9 ?k9 ?a10 ?l10 ?c10 ?k10 ?a11 ?l11 ?c11 ?k11 ?a12 ?l12 ?c12 ?k12 ?a13 ?l13 ?c13 ?k13 ?a14 ?l14 ?c14 ?k14 ?a15 ?l15 ?c15 ?k15 ?a16 ?l16 ?c16 ?k16 ?a17 ?l17 ?c17 ?k17 ?a18 ?l18 ?c18 ?k18 ?a19 ?l19 ?c19 ?k19 ?z0 ?z1 ?z2 ?z3 ?z4 ?z5 ?z6 ?z7 ?z8 ?z9 ?z10 ?z11 ?z12 ?q0 ?q1
    (case a0 => k_is)
    (case l0 => k_is)
    (case c0 => k_is)
    (case k0 => k_is)
    (case a1 => k_is)
    (case l1 => k_is)
    (case c1 => k_is)
    (case k1 => k_is)
    (case a2 => k_is)
    (case l2 => k_is)
    (case c2 => k_is)
    (case k2 => k_is)
    (case a3 => k_is)
    (case l3 => k_is)
    (case c3 => k_is)
    (case k3 => k_is)
    (case a4 => k_is)
    (case l4 => k_is)
    (case c4 => k_is)
    (case k4 => k_is)
    (case a5 => k_is)
    (case l5 => k_is)
    (case c5 => k_is)
    (case k5 => k_is)
    (case a6 => k_is)
    (case l6 => k_is)
    (case c6 => k_is)
    (case k6 => k_is)
    (case a7 => k_is)
    (case l7 => k_is)
    (case c7 => k_is)
    (case k7 => k_is)
    (case a8 => k_is)
    (case l8 => k_is)
    (case c8 => k_is)
    (case k8 => k_is)
    (case a9 => k_is)
    (case l9 => k_is)
    (case c9 => k_is)
    (case k9 => k_is)
    (case a10 => k_is)
    (case l10 => k_is)
    (case c10 => k_is)
    (case k10 => k_is)
    (case a11 => k_is)
    (case l11 => k_is)
    (case c11 => k_is)
    (case k11 => k_is)
    (case a12 => k_is)
    (case l12 => k_is)
    (case c12 => k_is)
    (case k12 => k_is)
    (case a13 => k_is)
    (case l13 => k_is)
    (case c13 => k_is)
    (case k13 => k_is)
    (case a14 => k_is)
    (case l14 => k_is)
    (case c14 => k_is)
    (case k14 => k_is)
    (case a15 => k_is)
    (case l15 => k_is)
    (case c15 => k_is)
    (case k15 => k_is)
    (case a16 => k_is)
    (case l16 => k_is)
    (case c16 => k_is)
    (case k16 => k_is)
    (case a17 => k_is)
    (case l17 => k_is)
    (case c17 => k_is)
    (case k17 => k_is)
    (case a18 => k_is)
    (case l18 => k_is)
    (case c18 => k_is)
    (case k18 => k_is)
    (case a19 => k_is)
    (case l19 => k_is)
    (case c19 => k_is)
    (case k19 => k_is)
    (case z0 => k_is)
    (case z1 => k_is)
    (case z2 => k_is)
    (case z3 => k_is)
    (case z4 => k_is)
    (case z5 => k_is)
    (case z6 => k_is)
    (case z7 => k_is)
    (case z8 => k_is)
    (case z9 => k_is)
    (case z10 => k_is)
    (case z11 => k_is)
    (case z12 => k_is)
    (case q0 => k_is)
    (case q1 => k_is)
