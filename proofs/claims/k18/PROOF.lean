import PyProof.Rows.All
import Wide.All
import OpenK.AllK
import Wide.FinOn
import HandS.ForMost
import HandS.ForExc
import HandS.Flow
import HandS.Style
import HandS.Wide
import HandS.WideMore
import HandS.WideBits
import HandS.IsInst
import HandS.Rev
import HandS.Walk
import HandS.IntHex
import KE.GoesMore
import PySem.Challenge.RW_runsums_k18_bits_written_and_read
set_option Elab.async false
set_option linter.all false
set_option maxRecDepth 100000
set_option maxHeartbeats 4000000
set_option exponentiation.threshold 20000

namespace Rs
open PySem L2 PyProof.Rows
abbrev Sm := L2.Same
/-! ### rules side by side -/
section
variable {X : Cx}
theorem op_or {f : Value → Value → Sem Value} {r r' : R2} (h : OpR X f r) (h' : OpR X f r') : OpR X f (fun x y H Q => r x y H Q ∨ r' x y H Q) := by
  intro pins s σ H x y v u Q I rx ry q
  rcases q with q | q
  · exact h pins s σ H x y v u Q I rx ry q
  · exact h' pins s σ H x y v u Q I rx ry q
theorem cr_or {f : Value} {r r' : List V → Hp → VK → Prop} (h : CallR X f r) (h' : CallR X f r') : CallR X f (fun xs H Q => r xs H Q ∨ r' xs H Q) := by
  intro pins s σ H xs us Q I rx q
  rcases q with q | q
  · exact h pins s σ H xs us Q I rx q
  · exact h' pins s σ H xs us Q I rx q
def gAdd (K : PySem.W.Frag) : R2 := fun x y H Q => rI0 (fun i j => .int (i + j)) x y H Q ∨ ((∃ i j, x = .str i ∧ y = .str j ∧ i.length + j.length ≤ sizeLine ∧ Q (.str (i ++ j)) H) ∨ (rCat x y H Q ∨ rCatT K x y H Q))
theorem op_gAdd {K : PySem.W.Frag} (hK : X.K = K) : OpR X (binaryOp .Add) (gAdd K) := by subst hK; exact op_or op_add (op_or op_add_str (op_or op_cat op_catT))
def CM (i j : Int) : Prop := CMul i j ∨ CMulX i j
def gMul : R2 := fun x y H Q => rI CMul (fun i j => .int (i * j)) x y H Q ∨ (rI CMulX (fun i j => .int (i * j)) x y H Q ∨ rRep x y H Q)
theorem op_gMul : OpR X (binaryOp .Mult) gMul := op_or op_mul (op_or op_mulX op_rep)
def gMulS : R2 := fun x y H Q => ∃ a n, x = .str a ∧ y = .int n ∧ MulOk a n ∧ Q (.str (Txt.mul a n)) H
theorem op_gMulS : OpR X (binaryOp .Mult) gMulS := by
  intro pins s σ H x y u v Q I rx ry h
  obtain ⟨a, n, rfl, rfl, hok, q⟩ := h
  obtain ⟨t, rfl⟩ := rx
  obtain ⟨t', rfl⟩ := ry
  exact SB.mul hok fun t' k => ⟨.str _, H, I.tok _, ⟨_, rfl⟩, q⟩
def gDiv : R2 := fun x y H Q => rI CDivW (fun i j => .int (i / j)) x y H Q
theorem op_gDiv : OpR X (binaryOp .FloorDiv) gDiv := op_fdivW
def gMod : R2 := rI (fun _ j => 0 < j) fun i j => .int (i % j)
theorem op_gMod : OpR X (binaryOp .Mod) gMod := op_mod
def gShl : R2 := rI CShl fun i j => .int (i * 2 ^ j.toNat)
theorem op_gShl : OpR X (binaryOp .LShift) gShl := op_shlW
def gPow : R2 := rI CPow fun i j => .int (i ^ j.toNat)
theorem op_gPow : OpR X (binaryOp .Pow) gPow := op_pow
def gShr : R2 := rI (fun _ j => 0 ≤ j) fun i j => .int (i / 2 ^ j.toNat)
theorem op_gShr : OpR X (binaryOp .RShift) gShr := op_shr
def gAnd : R2 := rI0 fun i j => .int (Builtin.bitAnd i j)
theorem op_gAnd : OpR X (binaryOp .BitAnd) gAnd := op_and
def gLt : R2 := rI0 fun i j => .bl (decide (i < j))
theorem op_gLt : OpR X (compareOp .Lt) gLt := op_lt
def gLe : R2 := rI0 fun i j => .bl (decide (i ≤ j))
theorem op_gLe : OpR X (compareOp .LtE) gLe := op_le
def gGt : R2 := rI0 fun i j => .bl (decide (j < i))
theorem op_gGt : OpR X (compareOp .Gt) gGt := op_gt
def gGe : R2 := rI0 fun i j => .bl (decide (j ≤ i))
theorem op_gGe : OpR X (compareOp .GtE) gGe := op_ge
def gEq (K : PySem.W.Frag) : R2 := fun x y H Q => rEq x y H Q ∨ rEqD K x y H Q
theorem op_gEq {K : PySem.W.Frag} (hK : X.K = K) (hu : X.A.units + 64 < cLine) : OpR X (compareOp .Eq) (gEq K) := by subst hK; exact op_or op_eq (op_eqD hu)
def gNe (K : PySem.W.Frag) : R2 := fun x y H Q => rNe x y H Q ∨ rNeD K x y H Q
theorem op_gNe {K : PySem.W.Frag} (hK : X.K = K) (hu : X.A.units + 64 < cLine) : OpR X (compareOp .NotEq) (gNe K) := by subst hK; exact op_or op_ne (op_neD hu)
def gLen (K : PySem.W.Frag) : List V → Hp → VK → Prop := fun xs H Q => (∃ p ys, xs = [.ref p] ∧ (SqL K H p ys ∨ SqT K H p ys) ∧ Q (.int ys.length) H) ∨ (∃ z, xs = [.str z] ∧ z.length ≤ sizeLine ∧ Q (.int z.length) H)
theorem call_gLen {K : PySem.W.Frag} (hK : X.K = K) : CallR X (.builtin "len") (gLen K) := by subst hK; exact cr_or call_len_seq call_len_str
theorem call_gIsi {K : PySem.W.Frag} (hK : X.K = K) : CallR X (.builtin "isinstance") (rIsi K) := by subst hK; exact call_isi
theorem ix_g {K : PySem.W.Frag} (hK : X.K = K) : IxR X (rIx K) := by subst hK; exact ix_seq
theorem sl_gl {K : PySem.W.Frag} (hK : X.K = K) : SlR X (rSlL K) := by subst hK; exact sl_list
theorem sl_gt {K : PySem.W.Frag} (hK : X.K = K) : SlR X (rSlT K) := by subst hK; exact sl_tup
theorem pi_gl {K : PySem.W.Frag} (hK : X.K = K) {tg l : Expr} {tl : TE} (hl : PE X l tl) : PI X tg l (iList K tl) := by subst hK; exact pi_list hl
theorem pi_gt {K : PySem.W.Frag} (hK : X.K = K) {tg l : Expr} {tl : TE} (hl : PE X l tl) : PI X tg l (iTup K tl) := by subst hK; exact pi_tup hl
theorem op_gInSeq {K : PySem.W.Frag} (hK : X.K = K) : OpR X (compareOp .In) (rIn K false) := by subst hK; exact op_in_seq
theorem op_gNotInSeq {K : PySem.W.Frag} (hK : X.K = K) : OpR X (compareOp .NotIn) (rIn K true) := by subst hK; exact op_notIn_seq
def gTup2 (K : PySem.W.Frag) (n : Nat) (t : TGs) : TG := gTup K n t
theorem pg_gt {K : PySem.W.Frag} (hK : X.K = K) {es : List Expr} {k : Nat} {pos : Pos} {t : TGs} {n : Nat} (hc : X.calm = true) (h : PGs X es t) (hl : (assignEach es X.env).length = n := by rfl) (hst : (assignEach es X.env).findIdx? (·.1) = none := by rfl) :
    PG X (.Tuple es k pos) (gTup2 K n t) := by subst hK; exact pg_tup hc h hl hst
theorem pe_gbm {K : PySem.W.Frag} (hK : X.K = K) {o e : Expr} {es : List Expr} {to : TE} {t : TA} {name : Str} {apos cpos : Pos} {T id : String} {r : V → List V → Hp → VK → Prop} (pa : PlainAttrs T) (slot : Slot T name id) (hty : typeOf (.builtin id) = pure (.type "method_descriptor")) (hm : MtR X id r) (ho : PE X o to) (ha : PA X (e :: es) t)
    (hbase : attributeBase o name X.env (eval o X.env) = eval o X.env := by rfl)
    (hfew : ((backTo cpos (starEach (e :: es) X.env)).all (fun x => !x.1) && (backToKw cpos (keywordEach [] X.env)).all (fun x => x.1.isSome)
      && decide ((e :: es).length + ([] : List Keyword).length + (if ([] : List Keyword).isEmpty then 0 else 1) < 30)) = true := by rfl)
    (hline : (apos.endLine == cpos.line) = true := by rfl) (hs : starEach (e :: es) X.env = (false, eval e X.env) :: starEach es X.env := by rfl) (hplain : (backTo cpos (starEach es X.env)).any (·.1) = false := by rfl) :
    PE X (.Call (.Attribute o name apos) (e :: es) [] cpos) (tBM K T r to t) := by subst hK; exact pe_bm pa slot hty hm ho ha hbase hfew hline hs hplain
theorem pe_gbm0 {K : PySem.W.Frag} (hK : X.K = K) {o : Expr} {to : TE} {name : Str} {apos cpos : Pos} {T id : String} {r : V → List V → Hp → VK → Prop} (pa : PlainAttrs T) (slot : Slot T name id) (hty : typeOf (.builtin id) = pure (.type "method_descriptor")) (hm : MtR X id r) (ho : PE X o to)
    (hbase : attributeBase o name X.env (eval o X.env) = eval o X.env := by rfl) (hline : (apos.endLine == cpos.line) = true := by rfl) : PE X (.Call (.Attribute o name apos) [] [] cpos) (tBM0 K T r to) := by subst hK; exact pe_bm0 pa slot hty hm ho hbase hline
def gTpl (K : PySem.W.Frag) : List V → Hp → VK → Prop := (fun xs H Q => ∃ p ys, xs = [.ref p] ∧ ((SqL K H p ys ∧ ∀ l, H l = none → Q (.ref l) (upd H l (.tup ys))) ∨ (SqT K H p ys ∧ Q (.ref p) H)))
def gLst (K : PySem.W.Frag) : List V → Hp → VK → Prop := (fun xs H Q => ∃ p ys, xs = [.ref p] ∧ (SqL K H p ys ∨ SqT K H p ys) ∧ ∀ l, H l = none → Q (.ref l) (upd H l (.lst ys)))
theorem call_gTuple {K : PySem.W.Frag} (hK : X.K = K) : CallR X (.type "tuple") (gTpl K) := by subst hK; exact call_tuple_of
theorem call_gList {K : PySem.W.Frag} (hK : X.K = K) : CallR X (.type "list") (gLst K) := by subst hK; exact call_list_of
theorem iop_mulX : OpR X (inplaceOp .Mult) (rI CMulX fun i j => .int (i * j)) := opI fun _ _ _ _ _ _ _ hc q => imul_int q hc.ok
def gIAdd : R2 := fun x y H Q => rI0 (fun i j => .int (i + j)) x y H Q ∨ (∃ i j, x = .str i ∧ y = .str j ∧ i.length + j.length ≤ sizeLine ∧ Q (.str (i ++ j)) H)
def gIMul : R2 := fun x y H Q => rI CMul (fun i j => .int (i * j)) x y H Q ∨ rI CMulX (fun i j => .int (i * j)) x y H Q
def gXor : R2 := rI0 fun i j => .int (Builtin.bitXor i j)
theorem ip_gAdd : PIp X .Add gIAdd := op_or iop_add iop_add_str
theorem ip_gMul : PIp X .Mult gIMul := op_or iop_mul iop_mulX
theorem ip_gDiv : PIp X .FloorDiv gDiv := iop_fdivW
theorem ip_gShr : PIp X .RShift gShr := iop_shr
theorem ip_gShl : PIp X .LShift gShl := iop_shlW
theorem op_gXor {X : Cx} : OpR X (binaryOp .BitXor) gXor := op_xor
theorem ip_gXor : PIp X .BitXor gXor := iop_xor
theorem ip_gAnd : PIp X .BitAnd gAnd := iop_and
theorem ip_gSub : PIp X .Sub (rI0 fun i j => .int (i - j)) := iop_sub
def gIntC : List V → Hp → VK → Prop := fun xs H Q => (∃ i, xs = [.int i] ∧ Q (.int i) H) ∨ ∃ k, xs = [.bl k] ∧ Q (.int (if k then 1 else 0)) H
theorem call_gInt : CallR X (.type "int") gIntC := call_int1
def gMax : List V → Hp → VK → Prop := fun xs H Q => ∃ i j, xs = [.int i, .int j] ∧ Q (.int (if j > i then j else i)) H
theorem call_gMax (hc : X.calm = true) : CallR X (.builtin "max") gMax := call_max2 hc
def gMin : List V → Hp → VK → Prop := fun xs H Q => ∃ i j, xs = [.int i, .int j] ∧ Q (.int (if j < i then j else i)) H
theorem call_gMin (hc : X.calm = true) : CallR X (.builtin "min") gMin := call_min2 hc
end
/-! ### a def by its name -/
structure Def (P : Program) (w : World) (K : PySem.W.Frag) (mg : Str → Option Value) (base : Heap) (CX : CXT) (name : Str) (k : Nat) (ps : List Str) (sp : Sp) : Prop where
  ex : ∃ f fd, mg name = some (.ref f) ∧ FnOk P w K mg base CX k f fd ps sp ∧ PySem.W.keepIn K (.ref f) = true ∧ Binds K fd ps []
section
variable {X : Cx} {CX : CXT} {k : Nat} {ps : List Str} {sp : Sp} {x : Str} {p pos : Pos} {e : Expr} {es : List Expr} {t : TA} {E : XK}
theorem pe_f (G : Def X.prog X.w X.K X.mg X.base CX x k ps sp) (hr : Room k X.A) (hg : Gl X x) (hx : Passes CX X E) (ha : PA X (e :: es) t) (hdb : (x == ("__debug__" : Str)) = false := by decide)
    (he : starEach (e :: es) X.env = (false, eval e X.env) :: starEach es X.env := by rfl) (hpl : (backTo pos (starEach es X.env)).any (·.1) = false := by rfl) :
    PE X (.Call (.Name x p) (e :: es) [] pos) (tCall sp [] E t) := by
  obtain ⟨f, fd, m, F, kp, b⟩ := G.ex
  exact pe_call F hr hg m kp b .nil hx ha hdb he hpl
theorem pe_f0 (G : Def X.prog X.w X.K X.mg X.base CX x k ps sp) (hr : Room k X.A) (hg : Gl X x) (hx : Passes CX X E) (hdb : (x == ("__debug__" : Str)) = false := by decide) :
    PE X (.Call (.Name x p) [] [] pos) (tCall sp [] E tNil) := by
  obtain ⟨f, fd, m, F, kp, b⟩ := G.ex
  exact pe_call0 F hr hg m kp b .nil hx hdb
end
/-- a def called by its arguments' names -/
structure DefK (P : Program) (w : World) (K : PySem.W.Frag) (mg : Str → Option Value) (base : Heap) (CX : CXT) (name : Str) (k : Nat) (ps ks : List Str) (gV : List V → List V → List V) (sp : Sp) : Prop where
  ex : ∃ f fd g, mg name = some (.ref f) ∧ FnOk P w K mg base CX k f fd ps sp ∧ PySem.W.keepIn K (.ref f) = true ∧ KBinds K fd ps ks g gV
section
variable {X : Cx} {CX : CXT} {k : Nat} {ps ks : List Str} {gV : List V → List V → List V} {sp : Sp} {x : Str} {p pos : Pos} {e : Expr} {es : List Expr} {kws : List Keyword} {t tk : TA} {E : XK}
theorem pe_fK0 (G : DefK X.prog X.w X.K X.mg X.base CX x k ps ks gV sp) (hr : Room k X.A) (hg : Gl X x) (hx : Passes CX X E) (hkw : PK X kws tk)
    (hall : (backToKw pos (keywordEach kws X.env)).all (·.1.isSome) = true := by rfl) (hks : (backToKw pos (keywordEach kws X.env)).filterMap (·.1) = ks := by rfl) (hdb : (x == ("__debug__" : Str)) = false := by decide)
    (hpl : ((backTo pos (starEach [] X.env)).any (·.1) || (backToKw pos (keywordEach kws X.env)).any (·.1.isNone)) = false := by rfl) :
    PE X (.Call (.Name x p) [] kws pos) (tCallK sp gV E tNil tk) := by
  obtain ⟨f, fd, g, m, F, kp, b⟩ := G.ex
  refine ⟨fun pins s σ H Q I h => ?_⟩
  refine wpAny_Call_Name_kw (ld_glob I hg m ?_ hdb)
  refine PySem.W.callWith_KW0 (h₀ := X.base) I.ok.mod.kin kp hall ?_ hpl
  refine thn (hkw.run pos pins s σ H _ I h) fun ws s2 ⟨zs, H2, I2, rz, q2⟩ => ⟨I2.kIn, ?_⟩
  rw [hks]
  exact run_fnk F hr b hx I2 .nil rz q2
end
section
variable {X : Cx} {CX : CXT} {k : Nat} {ps ks : List Str} {gV : List V → List V → List V} {sp : Sp} {x : Str} {p pos : Pos} {e : Expr} {es : List Expr} {kws : List Keyword} {t tk : TA} {E : XK}
theorem pe_fK (G : DefK X.prog X.w X.K X.mg X.base CX x k ps ks gV sp) (hr : Room k X.A) (hg : Gl X x) (hx : Passes CX X E) (ha : PA X (e :: es) t) (hkw : PK X kws tk)
    (hall : (backToKw pos (keywordEach kws X.env)).all (·.1.isSome) = true := by rfl) (hks : (backToKw pos (keywordEach kws X.env)).filterMap (·.1) = ks := by rfl) (hdb : (x == ("__debug__" : Str)) = false := by decide)
    (he : starEach (e :: es) X.env = (false, eval e X.env) :: starEach es X.env := by rfl)
    (hpl : ((backTo pos (starEach (e :: es) X.env)).any (·.1) || (backToKw pos (keywordEach kws X.env)).any (·.1.isNone)) = false := by rfl) :
    PE X (.Call (.Name x p) (e :: es) kws pos) (tCallK sp gV E t tk) := by
  obtain ⟨f, fd, g, m, F, kp, b⟩ := G.ex
  exact pe_callK F hr hg m kp b hx ha hkw hall hks hdb he hpl
end
/-! ### heaps -/
theorem sm_new {H : Hp} {p : Addr} {o : HO} (h : H p = none) : Sm H (upd H p o) := fun b x e => by
  rw [upd_ne (ne_of_none e h)]
  exact e
/-- all but b as it was -/
def Kp (b : Addr) (H H' : Hp) : Prop := ∀ a o, a ≠ b → H a = some o → H' a = some o
theorem Kp.refl {b : Addr} (H : Hp) : Kp b H H := fun _ _ _ h => h
theorem Kp.trans {b : Addr} {H H1 H2 : Hp} (x : Kp b H H1) (y : Kp b H1 H2) : Kp b H H2 := fun a o n h => y a o n (x a o n h)
theorem Kp.of {b : Addr} {H H1 : Hp} (x : Sm H H1) : Kp b H H1 := fun a o _ h => x a o h
theorem kp_upd {b : Addr} {H : Hp} {o : HO} : Kp b H (upd H b o) := fun a x n h => by rw [upd_ne n]; exact h
theorem ne_new {H : Hp} {p b : Addr} {o : HO} (hp : H p = none) (hb : H b = some o) : p ≠ b := fun e => by rw [e, hb] at hp; cases hp
theorem Same.get {H H' : Hp} {a : Addr} {o : HO} (h : Sm H H') (k : H a = some o) : H' a = some o := h a o k
theorem Kp.get {b : Addr} {H H' : Hp} {a : Addr} {o : HO} (h : Kp b H H') (n : a ≠ b) (k : H a = some o) : H' a = some o := h a o n k
theorem ne_new2 {H : Hp} {p b : Addr} {o : HO} (hp : H p = none) (hb : H b = some o) : b ≠ p := fun e => by rw [← e, hb] at hp; cases hp
theorem sm_mut {H H1 H2 : Hp} {p : Addr} (s : Sm H H1) (n : H p = none) (k : Kp p H1 H2) : Sm H H2 := fun a o h => k a o (ne_of_none h n) (s a o h)
theorem kp_mut {b : Addr} {H H1 H2 : Hp} {p : Addr} (s : Kp b H H1) (n : H p = none) (k : Kp p H1 H2) : Kp b H H2 := fun a o m h => k a o (ne_of_none h n) (s a o m h)
theorem kp_free {b : Addr} {H H1 : Hp} {p : Addr} (s : Kp b H H1) (m : p ≠ b) (n : H1 p = none) : H p = none := by
  cases e : H p with
  | none => rfl
  | some o => rw [s p o m e] at n; cases n
theorem at_ints {ns : List Int} {i : Int} (h0 : 0 ≤ i) (h1 : i < ((ns.map V.int).length : Int)) : ∃ n, atI (ns.map V.int) i = some (.int n) := by
  obtain ⟨j, rfl⟩ := Int.eq_ofNat_of_zero_le h0
  have h2 : j < ns.length := by rw [List.length_map] at h1; omega
  exact ⟨ns[j], atI_nat (by rw [List.getElem?_map, List.getElem?_eq_getElem h2]; rfl)⟩
/-- a list that no one stores into: the script's -/
def SqF (K : PySem.W.Frag) (H : Hp) (a : Addr) (xs : List V) : Prop := (∃ o, H a = some (.frz o (.lst xs))) ∨
  ∃ (o : Obj) (its : Array Value) (n : Nat), K.lookup a = some o ∧ o.cls = .type "list" ∧ o.dict = none ∧ o.data = .seq its n ∧ its.size ≤ sizeLine ∧ Vals xs its.toList
theorem SqF.sq {K : PySem.W.Frag} {H : Hp} {a : Addr} {xs : List V} (h : SqF K H a xs) : SqL K H a xs := by
  rcases h with h | h
  · exact .inl (.inr h)
  · exact .inr h
theorem SqF.sm {K : PySem.W.Frag} {H H' : Hp} {a : Addr} {xs : List V} (h : SqF K H a xs) (e : Sm H H') : SqF K H' a xs := by
  rcases h with ⟨o, h⟩ | h
  · exact .inl ⟨o, e _ _ h⟩
  · exact .inr h
theorem SqF.kp {K : PySem.W.Frag} {H H' : Hp} {a b : Addr} {xs ys : List V} (h : SqF K H a xs) (hb : H b = some (.lst ys)) (e : Kp b H H') : SqF K H' a xs := by
  rcases h with ⟨o, h⟩ | h
  · exact .inl ⟨o, e _ _ (ne_of h hb (by intro z; cases z)) h⟩
  · exact .inr h
theorem SqF.of {K : PySem.W.Frag} {H : Hp} {a : Addr} {xs : List V} (hO : Only H) (h : SqL K H a xs) : SqF K H a xs := by
  rcases h with (h | h) | h
  · rcases hO a with e | ⟨o, ys, e⟩
    · rw [e] at h; cases h
    · rw [e] at h; cases h
  · exact .inl h
  · exact .inr h
theorem g_sqf {K : PySem.W.Frag} {H H0 : Hp} {a : Addr} {xs ys : List V} (_ : SqF K H0 a ys) (h : SqF K H a xs) : SqF K H a xs := h
theorem g_lk {H H0 : Hp} {a : Addr} {o o' : HO} (_ : H0 a = some o') (h : H a = some o) : H a = some o := h
theorem g_fr {H H0 : Hp} {a : Addr} (_ : H0 a = none) (h : H a = none) : H a = none := h
/-- a list of tuples of values as told -/
def AllT (P : List V → Prop) (xs : List V) (H : Hp) : Prop := ∀ x ∈ xs, ∃ t vs, x = .ref t ∧ H t = some (.tup vs) ∧ P vs
theorem AllT.nil {P : List V → Prop} {H : Hp} : AllT P [] H := fun _ h => by cases h
theorem AllT.sm {P : List V → Prop} {xs : List V} {H H' : Hp} (h : AllT P xs H) (e : Sm H H') : AllT P xs H' := fun x hx => by
  obtain ⟨t, vs, a, b, c⟩ := h x hx
  exact ⟨t, vs, a, e _ _ b, c⟩
theorem AllT.kp {P : List V → Prop} {xs ys : List V} {H H' : Hp} {b : Addr} (h : AllT P xs H) (hb : H b = some (.lst ys)) (e : Kp b H H') : AllT P xs H' := fun x hx => by
  obtain ⟨t, vs, a, k, c⟩ := h x hx
  exact ⟨t, vs, a, e _ _ (ne_of k hb (by intro z; cases z)) k, c⟩
theorem AllT.add {P : List V → Prop} {xs vs : List V} {H : Hp} {t : Addr} (h : AllT P xs H) (k : H t = some (.tup vs)) (p : P vs) : AllT P (xs ++ [.ref t]) H := fun x hx => by
  rcases List.mem_append.mp hx with hx | hx
  · exact h x hx
  · cases hx with
    | head => exact ⟨t, vs, rfl, k, p⟩
    | tail _ z => cases z
theorem AllT.app {P : List V → Prop} {xs ys : List V} {H : Hp} (h : AllT P xs H) (k : AllT P ys H) : AllT P (xs ++ ys) H := fun x hx => (List.mem_append.mp hx).elim (h x) (k x)
theorem AllT.cut {P : List V → Prop} {xs : List V} {lo hi : Option Int} {H : Hp} (h : AllT P xs H) : AllT P (cutV xs lo hi) H := fun x hx => h x (List.mem_of_mem_drop (List.mem_of_mem_take hx))
theorem AllT.at {P : List V → Prop} {xs : List V} {H : Hp} {n : Nat} {x : V} (h : AllT P xs H) (e : xs[n]? = some x) : ∃ t vs, x = .ref t ∧ H t = some (.tup vs) ∧ P vs := h x (List.mem_of_getElem? e)
theorem at_intE {ns : List Int} {i : Int} {j : Nat} {z : Int} (e : i = (j : Int)) (h : ns[j]? = some z) : atI (ns.map V.int) i = some (.int z) := by
  subst e
  exact atI_nat (by rw [List.getElem?_map, h]; rfl)
theorem d_of {p q : Prop} [Decidable p] [Decidable q] (h : p ↔ q) : decide p = decide q := decide_eq_decide.mpr h
theorem sq_of {K : PySem.W.Frag} {H : Hp} {a : Addr} {xs : List V} (h : H a = some (.lst xs)) : SqL K H a xs := Or.inl (Or.inl h)
theorem st_of {K : PySem.W.Frag} {H : Hp} {a : Addr} {xs : List V} (h : H a = some (.tup xs)) : SqT K H a xs := Or.inl (Or.inl h)
theorem kp_sq {K : PySem.W.Frag} {b : Addr} {H H' : Hp} {a : Addr} {xs : List V} (e : Kp b H H') (n : a ≠ b) (h : SqL K H a xs) : SqL K H' a xs := by
  rcases h with (h | ⟨o, h⟩) | h
  · exact .inl (.inl (e _ _ n h))
  · exact .inl (.inr ⟨o, e _ _ n h⟩)
  · exact .inr h
theorem sm_sq {K : PySem.W.Frag} {H H' : Hp} {a : Addr} {xs : List V} (e : Sm H H') (h : SqL K H a xs) : SqL K H' a xs := e.seq h
theorem sz_of {n : Nat} (h : n ≤ 100000) : n ≤ sizeLine := Nat.le_trans h (by decide)
theorem sz_lt {n : Nat} (h : n < 100000) : n < sizeLine := Nat.lt_of_lt_of_le h (by decide)
/-! ### what follows, by names of our own -/
def NX (D : Ends) : L2.St → Hp → Prop := D.nx
def BK (D : Ends) : L2.St → Hp → Prop := D.bk
def CT (D : Ends) : L2.St → Hp → Prop := D.ct
def RT (D : Ends) : VK := D.rt
def IsBl (x : V) (R : Bool → Prop) : Prop := ∃ k, x = .bl k ∧ R k
def SpC (sp : Sp) (vs : List V) (H : Hp) (Q : VK) (E : XK) : Prop := sp (vs ++ []) H Q E
def PartE (R : Option Int → Hp → Prop) (x : V) (H : Hp) : Prop := ∃ i, x = .int i ∧ R (some i) H
def BmE (K : PySem.W.Frag) (T : String) (x : V) (H : Hp) (R : Prop) : Prop := tyV K T x H ∧ R
def En (n : L2.St → Hp → Prop) (r : VK) (b c : L2.St → Hp → Prop) : Ends := { nx := n, rt := r, bk := b, ct := c }
/-! ### loops -/
def Rg1 (R : It → Hp → Prop) (vs : List V) (H : Hp) : Prop := ∃ j : Int, vs = [.int j] ∧ -(2 ^ 62) ≤ j ∧ j < 2 ^ 62 ∧ R (Itr 0 j.toNat) H
def Rg2 (R : It → Hp → Prop) (vs : List V) (H : Hp) : Prop := ∃ i j : Int, vs = [.int i, .int j] ∧ (-(2 ^ 62) ≤ i ∧ i < 2 ^ 62 ∧ -(2 ^ 62) ≤ j ∧ j < 2 ^ 62) ∧ R (Itr i (j - i).toNat) H
def LsE (K : PySem.W.Frag) (R : It → Hp → Prop) (x : V) (H : Hp) : Prop := ∃ a, x = .ref a ∧ (∃ xs, SqL K H a xs) ∧ R (Itl K a) H
def TpE (K : PySem.W.Frag) (R : It → Hp → Prop) (x : V) (H : Hp) : Prop := ∃ a, x = .ref a ∧ (∃ xs, SqT K H a xs) ∧ R (Itt K a) H
def Loop (J : It) (g : TG) (tb : TS) : TS := fun D σ H => ∃ W : Nat → Nat → L2.St → Hp → Prop, (∃ m, W 0 m σ H) ∧ ∀ i m σ H, W i m σ H →
  (J.stop i H ∧ D.nx σ H) ∨ (J.go i H ∧ ∃ N : L2.St → Hp → Prop, (∀ σ' H', N σ' H' → ∃ m', m' < m ∧ W (i + 1) m' σ' H') ∧ ∀ x H', J.yld i H x H' → g x σ H' fun σ2 H2 => tb { D with nx := N, ct := N, bk := D.nx } σ2 H2)
section
variable {σ : L2.St} {H : Hp} {D : Ends} {K : PySem.W.Frag} {g : TG} {tb : TS} {ta : TA} {te : TE} {c : TT}
theorem w_for {wi : TI} (k : wi σ H fun J H1 => Loop J g tb D σ H1) : tFor wi g tb D σ H := k
theorem w_iR1 {R : It → Hp → Prop} (k : ta σ H fun vs H1 => Rg1 R vs H1) : iRng1 ta σ H R := k
theorem w_iR1e {n : Int} {R : It → Hp → Prop} (h1 : -(2 ^ 62) ≤ n) (h2 : n < 2 ^ 62) (k : R (Itr 0 n.toNat) H) : Rg1 R [V.int n] H := ⟨n, rfl, h1, h2, k⟩
theorem w_iR2 {R : It → Hp → Prop} (k : ta σ H fun vs H1 => Rg2 R vs H1) : iRng2 ta σ H R := k
theorem w_iR2e {m n : Int} {R : It → Hp → Prop} (h : -(2 ^ 62) ≤ m ∧ m < 2 ^ 62 ∧ -(2 ^ 62) ≤ n ∧ n < 2 ^ 62) (k : R (Itr m (n - m).toNat) H) : Rg2 R [V.int m, V.int n] H := ⟨m, n, rfl, h, k⟩
theorem w_iL {R : It → Hp → Prop} (k : te σ H fun x H1 => LsE K R x H1) : iList K te σ H R := k
theorem w_iLe {a : Addr} {xs : List V} {R : It → Hp → Prop} (h : SqL K H a xs) (k : R (Itl K a) H) : LsE K R (.ref a) H := ⟨a, rfl, ⟨xs, h⟩, k⟩
theorem w_iT {R : It → Hp → Prop} (k : te σ H fun x H1 => TpE K R x H1) : iTup K te σ H R := k
theorem w_iTe {a : Addr} {xs : List V} {R : It → Hp → Prop} (h : SqT K H a xs) (k : R (Itt K a) H) : TpE K R (.ref a) H := ⟨a, rfl, ⟨xs, h⟩, k⟩
theorem loopR {lo : Int} {n : Nat} (Pv : Nat → L2.St → Hp → Prop) (h0 : Pv 0 σ H) (hs : ∀ i σ H, i < n → Pv i σ H → g (.int (lo + i)) σ H fun σ2 H2 => tb (En (Pv (i + 1)) (RT D) (NX D) (Pv (i + 1))) σ2 H2)
    (hd : ∀ σ H, Pv n σ H → NX D σ H) : Loop (Itr lo n) g tb D σ H := for_range Pv h0 hs hd
theorem loopL {a : Addr} {xs : List V} (Pv : Nat → L2.St → Hp → Prop) (h0 : Pv 0 σ H) (hl : ∀ i σ H, i ≤ xs.length → Pv i σ H → SqL K H a xs)
    (hs : ∀ i x σ H, xs[i]? = some x → Pv i σ H → g x σ H fun σ2 H2 => tb (En (Pv (i + 1)) (RT D) (NX D) (Pv (i + 1))) σ2 H2) (hd : ∀ σ H, Pv xs.length σ H → NX D σ H) : Loop (Itl K a) g tb D σ H := for_list Pv h0 hl hs hd
theorem loopT {a : Addr} {xs : List V} (Pv : Nat → L2.St → Hp → Prop) (h0 : Pv 0 σ H) (hl : ∀ i σ H, i ≤ xs.length → Pv i σ H → SqT K H a xs)
    (hs : ∀ i x σ H, xs[i]? = some x → Pv i σ H → g x σ H fun σ2 H2 => tb (En (Pv (i + 1)) (RT D) (NX D) (Pv (i + 1))) σ2 H2) (hd : ∀ σ H, Pv xs.length σ H → NX D σ H) : Loop (Itt K a) g tb D σ H := for_tup Pv h0 hl hs hd
def WT (Pv : Nat → L2.St → Hp → Prop) (m : Nat) (tb : TS) (D : Ends) (σ : L2.St) (H : Hp) : Prop := ∃ N : L2.St → Hp → Prop, (∀ σ' H', N σ' H' → ∃ m', m' < m ∧ Pv m' σ' H') ∧ tb { D with nx := N, ct := N, bk := D.nx } σ H
def WN (Pv : Nat → L2.St → Hp → Prop) (m : Nat) : L2.St → Hp → Prop := fun σ2 H2 => ∃ m', m' < m ∧ Pv m' σ2 H2
theorem w_wt {Pv : Nat → L2.St → Hp → Prop} {m : Nat} (k : tb (En (WN Pv m) (RT D) (NX D) (WN Pv m)) σ H) : WT Pv m tb D σ H := ⟨_, fun _ _ z => z, k⟩
theorem w_while (Pv : Nat → L2.St → Hp → Prop) (m0 : Nat) (h0 : Pv m0 σ H)
    (hs : ∀ m σ' H', Pv m σ' H' → c σ' H' fun b H1 => if b = true then WT Pv m tb D σ' H1 else NX D σ' H1) : tWhile c tb D σ H := ⟨Pv, ⟨m0, h0⟩, hs⟩
end
/-! ### list comprehensions -/
def LcL (J : It) (g : TG) (tt : TT) (te : TE) (vs : List Nat) (σ : L2.St) (H1 : Hp) (Q : VK) : Prop := ∀ D, H1 D = none → ∃ W : Nat → Nat → Hp → Prop, (∃ m, W 0 m (upd H1 D (.lst []))) ∧ ∀ i m H, W i m H →
  (J.stop i H ∧ Q (.ref D) H) ∨ (J.go i H ∧ ∃ Nx : Hp → Prop, (∀ H', Nx H' → ∃ m', m' < m ∧ W (i + 1) m' H') ∧ ∀ x H', J.yld i H x H' → g x (wipe σ vs) H' fun σ2 H2 => wipe σ2 vs = wipe σ vs ∧ tt σ2 H2 fun b H3 =>
    if b = true then te σ2 H3 fun y H4 => ∃ acc, H4 D = some (.lst acc) ∧ acc.length < sizeLine ∧ Nx (upd H4 D (.lst (acc ++ [y]))) else Nx H3)
def LcEnd (D : Addr) (y : V) (R : Hp → Prop) (H : Hp) : Prop := ∃ acc, H D = some (.lst acc) ∧ acc.length < sizeLine ∧ R (upd H D (.lst (acc ++ [y])))
def LcGo (vs : List Nat) (σ σ2 : L2.St) (R : Prop) : Prop := wipe σ2 vs = wipe σ vs ∧ R
section
variable {σ : L2.St} {H : Hp} {Q : VK} {g : TG} {tt : TT} {te : TE} {vs : List Nat} {K : PySem.W.Frag}
theorem w_lc {wi : TI} (k : wi σ H fun J H1 => LcL J g tt te vs σ H1 Q) : tLc wi g tt te vs σ H Q := k
theorem w_lcEnd {D : Addr} {y : V} {acc : List V} {R : Hp → Prop} (h : H D = some (.lst acc)) (z : acc.length < sizeLine) (k : ∀ H', Kp D H H' → H' D = some (.lst (acc ++ [y])) → R H') : LcEnd D y R H := ⟨acc, h, z, k _ kp_upd upd_same⟩
theorem w_lcGo {σ2 : L2.St} {R : Prop} (e : wipe σ2 vs = wipe σ vs) (k : R) : LcGo vs σ σ2 R := ⟨e, k⟩
theorem w_yes {QT : Bool → Hp → Prop} (k : QT true H) : tYes σ H QT := k
theorem lcR {lo : Int} {n : Nat} (Pv : Addr → Nat → Hp → Prop) (h0 : ∀ D H', H D = none → Sm H H' → H' D = some (.lst []) → Pv D 0 H')
    (hs : ∀ D i H', H D = none → i < n → Pv D i H' → g (.int (lo + i)) (wipe σ vs) H' fun σ2 H2 => LcGo vs σ σ2 (tt σ2 H2 fun b H3 => if b = true then te σ2 H3 fun y H4 => LcEnd D y (Pv D (i + 1)) H4 else Pv D (i + 1) H3))
    (hd : ∀ D H', H D = none → Pv D n H' → Q (.ref D) H') : LcL (Itr lo n) g tt te vs σ H Q := fun D hD =>
  lc_range (Pv D) (h0 D _ hD (sm_new hD) upd_same) (fun i H' hi p => hs D i H' hD hi p) (fun H' p => hd D H' hD p)
theorem lcLs {a : Addr} {xs : List V} (Pv : Addr → Nat → Hp → Prop) (h0 : ∀ D H', H D = none → Sm H H' → H' D = some (.lst []) → Pv D 0 H') (hl : ∀ D i H', H D = none → i ≤ xs.length → Pv D i H' → SqL K H' a xs)
    (hs : ∀ D i x H', H D = none → xs[i]? = some x → Pv D i H' → g x (wipe σ vs) H' fun σ2 H2 => LcGo vs σ σ2 (tt σ2 H2 fun b H3 => if b = true then te σ2 H3 fun y H4 => LcEnd D y (Pv D (i + 1)) H4 else Pv D (i + 1) H3))
    (hd : ∀ D H', H D = none → Pv D xs.length H' → Q (.ref D) H') : LcL (Itl K a) g tt te vs σ H Q := fun D hD =>
  lc_list (xs := xs) (Pv D) (h0 D _ hD (sm_new hD) upd_same) (fun i H' hi p => hl D i H' hD hi p) (fun i x H' hi p => hs D i x H' hD hi p) (fun H' p => hd D H' hD p)
theorem lcTp {a : Addr} {xs : List V} (Pv : Addr → Nat → Hp → Prop) (h0 : ∀ D H', H D = none → Sm H H' → H' D = some (.lst []) → Pv D 0 H') (hl : ∀ D i H', H D = none → i ≤ xs.length → Pv D i H' → SqT K H' a xs)
    (hs : ∀ D i x H', H D = none → xs[i]? = some x → Pv D i H' → g x (wipe σ vs) H' fun σ2 H2 => LcGo vs σ σ2 (tt σ2 H2 fun b H3 => if b = true then te σ2 H3 fun y H4 => LcEnd D y (Pv D (i + 1)) H4 else Pv D (i + 1) H3))
    (hd : ∀ D H', H D = none → Pv D xs.length H' → Q (.ref D) H') : LcL (Itt K a) g tt te vs σ H Q := fun D hD =>
  lc_tup (xs := xs) (Pv D) (h0 D _ hD (sm_new hD) upd_same) (fun i H' hi p => hl D i H' hD hi p) (fun i x H' hi p => hs D i x H' hD hi p) (fun H' p => hd D H' hD p)
end
/-! ### keywords -/
theorem rel_0 {r1 : List Value} (h : Vals [] r1) : r1 = [] := by cases h; rfl
theorem rel_1 {x : V} {xs : List V} {us : List Value} (h : Vals (x :: xs) us) : ∃ u vs, us = u :: vs ∧ RelV x u ∧ Vals xs vs := by
  cases h with
  | cons a b => exact ⟨_, _, rfl, a, b⟩
/-! ### steps -/
section
variable {σ : L2.St} {H : Hp} {Q : VK} {QT : Bool → Hp → Prop} {QA : List V → Hp → Prop} {D : Ends} {K : PySem.W.Frag} {te ta tb : TE} {tt tu : TT} {t1 t2 : TS} {v x y : V} {i j : Int} {b : Bool}
theorem w_var {n : Nat} (h : σ[n]? = some (some v)) (k : Q v H) : tVar n σ H Q := ⟨v, h, k⟩
theorem w_c (k : Q v H) : tC v σ H Q := k
theorem w_op {r : R2} (k : ta σ H fun x H1 => tb σ H1 fun y H2 => r x y H2 Q) : tOp r ta tb σ H Q := k
theorem w_un {r : V → Hp → VK → Prop} (k : ta σ H fun x H1 => r x H1 Q) : tUn r ta σ H Q := k
theorem w_cb {r : List V → Hp → VK → Prop} {t : TA} (k : t σ H fun vs H1 => r vs H1 Q) : tCB r t σ H Q := k
theorem w_nil (k : QA [] H) : tNil σ H QA := k
theorem w_cons {tr : TA} (k : ta σ H fun x H1 => tr σ H1 fun xs H2 => QA (x :: xs) H2) : tCons ta tr σ H QA := k
def NewL (xs : List V) (H : Hp) (Q : VK) : Prop := xs.length ≤ sizeLine ∧ ∀ p, H p = none → Q (.ref p) (upd H p (.lst xs))
def NewT (xs : List V) (H : Hp) (Q : VK) : Prop := xs.length ≤ sizeLine ∧ ∀ p, H p = none → Q (.ref p) (upd H p (.tup xs))
theorem w_lst {t : TA} (k : t σ H fun xs H1 => NewL xs H1 Q) : tLst t σ H Q := k
theorem w_tup {t : TA} (k : t σ H fun xs H1 => NewT xs H1 Q) : tTup t σ H Q := k
theorem w_newL {xs : List V} (z : xs.length ≤ sizeLine) (k : ∀ p H', H p = none → Sm H H' → H' p = some (.lst xs) → Q (.ref p) H') : NewL xs H Q := ⟨z, fun p hp => k p _ hp (sm_new hp) upd_same⟩
theorem w_newT {xs : List V} (z : xs.length ≤ sizeLine) (k : ∀ p H', H p = none → Sm H H' → H' p = some (.tup xs) → Q (.ref p) H') : NewT xs H Q := ⟨z, fun p hp => k p _ hp (sm_new hp) upd_same⟩
theorem w_call {sp : Sp} {E : XK} {t : TA} (k : t σ H fun vs H1 => SpC sp vs H1 Q E) : tCall sp [] E t σ H Q := k
theorem w_sp {sp : Sp} {E : XK} {vs : List V} (k : sp vs H Q E) : SpC sp vs H Q E := by unfold SpC; rw [List.append_nil]; exact k
theorem w_callK {sp : Sp} {gV : List V → List V → List V} {E : XK} {t tk : TA} (k : t σ H fun vs H1 => tk σ H1 fun zs H2 => sp (gV vs zs) H2 Q E) : tCallK sp gV E t tk σ H Q := k
/-! values of operations -/
theorem w_ixL' {p : Addr} {xs : List V} (h : SqL K H p xs) (a : atI xs i = some v) (k : Q v H) : rIx K (.ref p) (.int i) H Q := .inl ⟨p, xs, i, v, rfl, rfl, h, a, k⟩
theorem w_addI (k : Q (.int (i + j)) H) : gAdd K (.int i) (.int j) H Q := .inl ⟨i, j, rfl, rfl, k⟩
theorem w_addS {a b : Str} (z : a.length + b.length ≤ sizeLine) (k : Q (.str (a ++ b)) H) : gAdd K (.str a) (.str b) H Q := .inr (.inl ⟨a, b, rfl, rfl, z, k⟩)
theorem w_addL {l m : Addr} {xs ys : List V} (h1 : H l = some (.lst xs)) (h2 : H m = some (.lst ys)) (z : xs.length + ys.length ≤ sizeLine) (k : ∀ p H', H p = none → Sm H H' → H' p = some (.lst (xs ++ ys)) → Q (.ref p) H') :
    gAdd K (.ref l) (.ref m) H Q := .inr (.inr (.inl ⟨l, m, xs, ys, rfl, rfl, h1, h2, z, fun p hp => k p _ hp (sm_new hp) upd_same⟩))
theorem w_I0 {g : Int → Int → V} (k : Q (g i j) H) : rI0 g (.int i) (.int j) H Q := ⟨i, j, rfl, rfl, k⟩
theorem w_I {C : Int → Int → Prop} {g : Int → Int → V} (c : C i j) (k : Q (g i j) H) : rI C g (.int i) (.int j) H Q := ⟨i, j, rfl, rfl, c, k⟩
theorem w_mulI (c : CM i j) (k : Q (.int (i * j)) H) : gMul (.int i) (.int j) H Q := by
  rcases c with c | c
  · exact .inl ⟨i, j, rfl, rfl, c, k⟩
  · exact .inr (.inl ⟨i, j, rfl, rfl, c, k⟩)
theorem w_divI (c : CDivW i j) (k : Q (.int (i / j)) H) : gDiv (.int i) (.int j) H Q := ⟨i, j, rfl, rfl, c, k⟩
theorem w_modI (c : 0 < j) (k : Q (.int (i % j)) H) : gMod (.int i) (.int j) H Q := ⟨i, j, rfl, rfl, c, k⟩
theorem w_modF (c : 0 < j) (k : ∀ z : Int, z = i % j → 0 ≤ z → z < j → (0 ≤ i → z ≤ i) → Q (.int z) H) : gMod (.int i) (.int j) H Q :=
  w_modI c (k _ rfl (Int.emod_nonneg _ (Int.ne_of_gt c)) (Int.emod_lt_of_pos _ c) fun h => by
    by_cases h2 : i < j
    · rw [Int.emod_eq_of_lt h h2]; exact Int.le_refl _
    · have := Int.emod_lt_of_pos i c
      omega)
theorem w_shlI (c : CShl i j) (k : Q (.int (i * 2 ^ j.toNat)) H) : gShl (.int i) (.int j) H Q := ⟨i, j, rfl, rfl, c, k⟩
theorem w_powI (c : CPow i j) (k : Q (.int (i ^ j.toNat)) H) : gPow (.int i) (.int j) H Q := ⟨i, j, rfl, rfl, c, k⟩
theorem w_shr1 (k : Q (.int (i / 2)) H) : gShr (.int i) (.int 1) H Q := ⟨i, 1, rfl, rfl, (show (0 : Int) ≤ 1 by decide), (show Q (.int (i / 2 ^ Int.toNat 1)) H from k)⟩
theorem w_iaddI (k : Q (.int (i + j)) H) : gIAdd (.int i) (.int j) H Q := .inl ⟨i, j, rfl, rfl, k⟩
theorem w_iaddS {a b : Str} (z : a.length + b.length ≤ sizeLine) (k : Q (.str (a ++ b)) H) : gIAdd (.str a) (.str b) H Q := .inr ⟨a, b, rfl, rfl, z, k⟩
theorem w_imulI (c : CM i j) (k : Q (.int (i * j)) H) : gIMul (.int i) (.int j) H Q := by
  rcases c with c | c
  · exact .inl ⟨i, j, rfl, rfl, c, k⟩
  · exact .inr ⟨i, j, rfl, rfl, c, k⟩
theorem w_xorI (k : Q (.int (Builtin.bitXor i j)) H) : gXor (.int i) (.int j) H Q := ⟨i, j, rfl, rfl, k⟩
theorem w_isiIb (k : Q (.bl false) H) : rIsi K [.int i, .ty "bool"] H Q := ⟨_, _, _, _, _, rfl, .ty _, .base (.int _), kit_ty (by decide +kernel), k⟩
theorem w_isiIi (k : Q (.bl true) H) : rIsi K [.int i, .ty "int"] H Q := ⟨_, _, _, _, _, rfl, .ty _, .base (.int _), kit_ty (by decide +kernel), k⟩
theorem w_isiBb (k : Q (.bl true) H) : rIsi K [.bl b, .ty "bool"] H Q := ⟨_, _, _, _, _, rfl, .ty _, .base (.bl _), kit_ty (by decide +kernel), k⟩
theorem w_isiSs {s : Str} (k : Q (.bl true) H) : rIsi K [.str s, .ty "str"] H Q := ⟨_, _, _, _, _, rfl, .ty _, .base (.str _), kit_ty (by decide +kernel), k⟩
theorem w_ixInts {p : Addr} {ns : List Int} (h : SqL K H p (ns.map V.int)) (h0 : 0 ≤ i) (h1 : i < ((ns.map V.int).length : Int)) (k : ∀ n : Int, n ∈ ns → Q (.int n) H) : rIx K (.ref p) (.int i) H Q := by
  obtain ⟨j, rfl⟩ := Int.eq_ofNat_of_zero_le h0
  have h2 : j < ns.length := by rw [List.length_map] at h1; omega
  exact w_ixL' h (atI_nat (by rw [List.getElem?_map, List.getElem?_eq_getElem h2]; rfl)) (k _ (List.getElem_mem h2))
theorem w_ix2I {p : Addr} {x y : Int} (h : SqL K H p [.int x, .int y]) (h0 : 0 ≤ i) (h1 : i < 2) (k : ∀ z : Int, i = 0 ∧ z = x ∨ i = 1 ∧ z = y → Q (.int z) H) : rIx K (.ref p) (.int i) H Q := by
  rcases (show i = 0 ∨ i = 1 by omega) with rfl | rfl
  · exact w_ixL' h (atI_nat (j := 0) rfl) (k _ (.inl ⟨rfl, rfl⟩))
  · exact w_ixL' h (atI_nat (j := 1) rfl) (k _ (.inr ⟨rfl, rfl⟩))
theorem w_ix3I {p : Addr} {x0 x1 x2 : Int} (h : SqL K H p [.int x0, .int x1, .int x2]) (h0 : 0 ≤ i) (h1 : i < 3) (k : ∀ z : Int, z = x0 ∨ z = x1 ∨ z = x2 → Q (.int z) H) : rIx K (.ref p) (.int i) H Q := by
  rcases (show i = 0 ∨ i = 1 ∨ i = 2 by omega) with rfl | rfl | rfl
  · exact w_ixL' h (atI_nat (j := 0) rfl) (k _ (by omega))
  · exact w_ixL' h (atI_nat (j := 1) rfl) (k _ (by omega))
  · exact w_ixL' h (atI_nat (j := 2) rfl) (k _ (by omega))
theorem w_ix4I {p : Addr} {x0 x1 x2 x3 : Int} (h : SqL K H p [.int x0, .int x1, .int x2, .int x3]) (h0 : 0 ≤ i) (h1 : i < 4) (k : ∀ z : Int, z = x0 ∨ z = x1 ∨ z = x2 ∨ z = x3 → Q (.int z) H) : rIx K (.ref p) (.int i) H Q := by
  rcases (show i = 0 ∨ i = 1 ∨ i = 2 ∨ i = 3 by omega) with rfl | rfl | rfl | rfl
  · exact w_ixL' h (atI_nat (j := 0) rfl) (k _ (by omega))
  · exact w_ixL' h (atI_nat (j := 1) rfl) (k _ (by omega))
  · exact w_ixL' h (atI_nat (j := 2) rfl) (k _ (by omega))
  · exact w_ixL' h (atI_nat (j := 3) rfl) (k _ (by omega))
theorem w_ix5I {p : Addr} {x0 x1 x2 x3 x4 : Int} (h : SqL K H p [.int x0, .int x1, .int x2, .int x3, .int x4]) (h0 : 0 ≤ i) (h1 : i < 5) (k : ∀ z : Int, z = x0 ∨ z = x1 ∨ z = x2 ∨ z = x3 ∨ z = x4 → Q (.int z) H) : rIx K (.ref p) (.int i) H Q := by
  rcases (show i = 0 ∨ i = 1 ∨ i = 2 ∨ i = 3 ∨ i = 4 by omega) with rfl | rfl | rfl | rfl | rfl
  · exact w_ixL' h (atI_nat (j := 0) rfl) (k _ (by omega))
  · exact w_ixL' h (atI_nat (j := 1) rfl) (k _ (by omega))
  · exact w_ixL' h (atI_nat (j := 2) rfl) (k _ (by omega))
  · exact w_ixL' h (atI_nat (j := 3) rfl) (k _ (by omega))
  · exact w_ixL' h (atI_nat (j := 4) rfl) (k _ (by omega))
theorem w_ix6I {p : Addr} {x0 x1 x2 x3 x4 x5 : Int} (h : SqL K H p [.int x0, .int x1, .int x2, .int x3, .int x4, .int x5]) (h0 : 0 ≤ i) (h1 : i < 6) (k : ∀ z : Int, z = x0 ∨ z = x1 ∨ z = x2 ∨ z = x3 ∨ z = x4 ∨ z = x5 → Q (.int z) H) : rIx K (.ref p) (.int i) H Q := by
  rcases (show i = 0 ∨ i = 1 ∨ i = 2 ∨ i = 3 ∨ i = 4 ∨ i = 5 by omega) with rfl | rfl | rfl | rfl | rfl | rfl
  · exact w_ixL' h (atI_nat (j := 0) rfl) (k _ (by omega))
  · exact w_ixL' h (atI_nat (j := 1) rfl) (k _ (by omega))
  · exact w_ixL' h (atI_nat (j := 2) rfl) (k _ (by omega))
  · exact w_ixL' h (atI_nat (j := 3) rfl) (k _ (by omega))
  · exact w_ixL' h (atI_nat (j := 4) rfl) (k _ (by omega))
  · exact w_ixL' h (atI_nat (j := 5) rfl) (k _ (by omega))
theorem w_ix7I {p : Addr} {x0 x1 x2 x3 x4 x5 x6 : Int} (h : SqL K H p [.int x0, .int x1, .int x2, .int x3, .int x4, .int x5, .int x6]) (h0 : 0 ≤ i) (h1 : i < 7) (k : ∀ z : Int, z = x0 ∨ z = x1 ∨ z = x2 ∨ z = x3 ∨ z = x4 ∨ z = x5 ∨ z = x6 → Q (.int z) H) : rIx K (.ref p) (.int i) H Q := by
  rcases (show i = 0 ∨ i = 1 ∨ i = 2 ∨ i = 3 ∨ i = 4 ∨ i = 5 ∨ i = 6 by omega) with rfl | rfl | rfl | rfl | rfl | rfl | rfl
  · exact w_ixL' h (atI_nat (j := 0) rfl) (k _ (by omega))
  · exact w_ixL' h (atI_nat (j := 1) rfl) (k _ (by omega))
  · exact w_ixL' h (atI_nat (j := 2) rfl) (k _ (by omega))
  · exact w_ixL' h (atI_nat (j := 3) rfl) (k _ (by omega))
  · exact w_ixL' h (atI_nat (j := 4) rfl) (k _ (by omega))
  · exact w_ixL' h (atI_nat (j := 5) rfl) (k _ (by omega))
  · exact w_ixL' h (atI_nat (j := 6) rfl) (k _ (by omega))
theorem w_ix8I {p : Addr} {x0 x1 x2 x3 x4 x5 x6 x7 : Int} (h : SqL K H p [.int x0, .int x1, .int x2, .int x3, .int x4, .int x5, .int x6, .int x7]) (h0 : 0 ≤ i) (h1 : i < 8) (k : ∀ z : Int, z = x0 ∨ z = x1 ∨ z = x2 ∨ z = x3 ∨ z = x4 ∨ z = x5 ∨ z = x6 ∨ z = x7 → Q (.int z) H) : rIx K (.ref p) (.int i) H Q := by
  rcases (show i = 0 ∨ i = 1 ∨ i = 2 ∨ i = 3 ∨ i = 4 ∨ i = 5 ∨ i = 6 ∨ i = 7 by omega) with rfl | rfl | rfl | rfl | rfl | rfl | rfl | rfl
  · exact w_ixL' h (atI_nat (j := 0) rfl) (k _ (by omega))
  · exact w_ixL' h (atI_nat (j := 1) rfl) (k _ (by omega))
  · exact w_ixL' h (atI_nat (j := 2) rfl) (k _ (by omega))
  · exact w_ixL' h (atI_nat (j := 3) rfl) (k _ (by omega))
  · exact w_ixL' h (atI_nat (j := 4) rfl) (k _ (by omega))
  · exact w_ixL' h (atI_nat (j := 5) rfl) (k _ (by omega))
  · exact w_ixL' h (atI_nat (j := 6) rfl) (k _ (by omega))
  · exact w_ixL' h (atI_nat (j := 7) rfl) (k _ (by omega))
theorem w_mulS {a : Str} (c : MulOk a i) (k : Q (.str (Txt.mul a i)) H) : gMulS (.str a) (.int i) H Q := ⟨a, i, rfl, rfl, c, k⟩
theorem shl1_ok (h0 : 0 ≤ j) (h : j ≤ 1000000) : CShl 1 j := by
  refine ⟨h0, ?_⟩
  have : Builtin.Int.intBits 1 ≤ 1 := intBits_le (by decide)
  omega
theorem pow_bd {m : Nat} (h : j ≤ (m : Int)) : 1 ≤ 1 * (2 : Int) ^ j.toNat ∧ 1 * (2 : Int) ^ j.toNat ≤ 2 ^ m ∧ (1 ≤ j → 2 ≤ 1 * (2 : Int) ^ j.toNat) := by
  have e : ∀ n : Nat, (2 : Int) ^ n = ((2 ^ n : Nat) : Int) := fun n => by rw [Int.natCast_pow]; rfl
  have h1 : 2 ^ j.toNat ≤ 2 ^ m := Nat.pow_le_pow_right (by decide) (by omega)
  have h2 : 0 < 2 ^ j.toNat := Nat.two_pow_pos _
  rw [Int.one_mul, e, e]
  refine ⟨by omega, by omega, fun hj => ?_⟩
  have h3 : 2 ^ 1 ≤ 2 ^ j.toNat := Nat.pow_le_pow_right (by decide) (by omega)
  omega
theorem and_nat {a b : Nat} : Builtin.bitAnd (a : Int) (b : Int) = ((a &&& b : Nat) : Int) := by
  have h := bitAnd_pp (Int.natCast_nonneg a) (Int.natCast_nonneg b)
  rw [Int.toNat_natCast, Int.toNat_natCast] at h
  exact h
theorem and_bd (h0 : 0 ≤ i) (h1 : 0 ≤ j) : 0 ≤ Builtin.bitAnd i j ∧ Builtin.bitAnd i j ≤ i ∧ Builtin.bitAnd i j ≤ j := by
  obtain ⟨a, rfl⟩ := Int.eq_ofNat_of_zero_le h0
  obtain ⟨b, rfl⟩ := Int.eq_ofNat_of_zero_le h1
  rw [and_nat]
  have e1 := @Nat.and_le_left a b
  have e2 := @Nat.and_le_right a b
  omega
def gOr : R2 := rI0 fun i j => .int (Builtin.bitOr i j)
theorem op_gOr {X : Cx} : OpR X (binaryOp .BitOr) gOr := L2.op_or
theorem w_orF (h0 : 0 ≤ i) (h1 : 0 ≤ j) (k : ∀ z : Int, z = Builtin.bitOr i j → 0 ≤ z → z ≤ i + j → Q (.int z) H) : gOr (.int i) (.int j) H Q := ⟨i, j, rfl, rfl, k _ rfl (by rw [L2.bitOr_nn h0 h1]; exact Int.natCast_nonneg _) (by rw [bitOr_and]; have := (and_bd h0 h1).1; omega)⟩
theorem dV_bl {s t : Bool} : decide (V.bl s = V.bl t) = decide (s = t) := by cases s <;> cases t <;> rfl
theorem w_eqB {s t : Bool} (k : Q (.bl (decide (s = t))) H) : gEq K (.bl s) (.bl t) H Q := .inl ⟨rfl, by rw [dV_bl]; exact k⟩
theorem w_neB {s t : Bool} (k : Q (.bl (!decide (s = t))) H) : gNe K (.bl s) (.bl t) H Q := .inl ⟨rfl, by rw [dV_bl]; exact k⟩
def gIs : R2 := fun x y H Q => y = .non ∧ Q (.bl (decide (x = .non))) H
def gNot : R2 := fun x y H Q => y = .non ∧ Q (.bl (!decide (x = .non))) H
theorem op_gIs {X : Cx} : OpR X (compareOp .Is) gIs := op_isN
theorem op_gNot {X : Cx} : OpR X (compareOp .IsNot) gNot := op_notN
theorem op_gIsB {X : Cx} : OpR X (compareOp .Is) rIsB := op_isBl
theorem op_gNotB {X : Cx} : OpR X (compareOp .IsNot) rNotB := op_notBl
theorem w_isN0 (k : Q (.bl true) H) : gIs .non .non H Q := ⟨rfl, by simpa using k⟩
theorem w_notN0 (k : Q (.bl false) H) : gNot .non .non H Q := ⟨rfl, by simpa using k⟩
theorem w_isNx (h : x ≠ .non) (k : Q (.bl false) H) : gIs x .non H Q := ⟨rfl, by rw [decide_eq_false h]; exact k⟩
theorem w_notNx (h : x ≠ .non) (k : Q (.bl true) H) : gNot x .non H Q := ⟨rfl, by rw [decide_eq_false h]; exact k⟩
theorem w_isBT (k : Q (.bl b) H) : rIsB (.bl b) (.bl true) H Q := ⟨b, true, rfl, rfl, by cases b <;> exact k⟩
theorem w_notBT (k : Q (.bl (!b)) H) : rNotB (.bl b) (.bl true) H Q := ⟨b, true, rfl, rfl, by cases b <;> exact k⟩
theorem w_sum {p : Addr} {ns : List Int} (h : SqL K H p (ns.map V.int)) (k : Q (.int ns.sum) H) : rSum K [.ref p] H Q := ⟨p, ns, rfl, h, k⟩
theorem w_all {p : Addr} {bs : List Bool} (h : SqL K H p (bs.map V.bl)) (k : Q (.bl (bs.all id)) H) : rAll K [.ref p] H Q := ⟨p, bs, rfl, h, k⟩
theorem w_shl1F (h0 : 0 ≤ j) (h : j ≤ 1000000) (k : ∀ z : Int, z = 2 ^ j.toNat → 1 ≤ z → (1 ≤ j → 2 ≤ z) → (j ≤ 9 → z ≤ 512) → (j ≤ 40 → z ≤ 1099511627776) → Q (.int z) H) : gShl (.int 1) (.int j) H Q := by
  obtain ⟨q1, q2, q3⟩ := pow_bd (j := j) (m := 1000000) (by omega)
  rw [Int.one_mul] at q1 q3
  refine w_shlI (shl1_ok h0 h) ?_
  rw [Int.one_mul]
  exact k _ rfl q1 q3 (fun h => by have := (pow_bd (j := j) (m := 9) (by omega)).2.1; rw [Int.one_mul] at this; omega) (fun h => by have := (pow_bd (j := j) (m := 40) (by omega)).2.1; rw [Int.one_mul] at this; omega)
theorem w_andF (h0 : 0 ≤ i) (h1 : 0 ≤ j) (k : ∀ z : Int, z = Builtin.bitAnd i j → 0 ≤ z → z ≤ i → z ≤ j → Q (.int z) H) : gAnd (.int i) (.int j) H Q := by
  obtain ⟨q1, q2, q3⟩ := and_bd h0 h1
  exact ⟨i, j, rfl, rfl, k _ rfl q1 q2 q3⟩
def BitsE (Q : VK) (x : V) (H : Hp) : Prop := ∃ i, x = .int i ∧ Q (.int (Builtin.Int.intBits i : Nat)) H
theorem w_bits {to : TE} (k : to σ H fun x H1 => BitsE Q x H1) : tBits to σ H Q := k
theorem bits_lt (i : Int) : i.natAbs < 2 ^ Builtin.Int.intBits i := by
  unfold Builtin.Int.intBits
  split
  · rename_i h
    have : i = 0 := by simpa using h
    subst this; decide
  · exact Nat.lt_log2_self
theorem w_bitsE (k : ∀ m : Nat, m = Builtin.Int.intBits i → i.natAbs < 2 ^ m → Q (.int m) H) : BitsE Q (.int i) H := ⟨i, rfl, k _ rfl (bits_lt i)⟩
theorem w_shrI (c : 0 ≤ j) (k : Q (.int (i / 2 ^ j.toNat)) H) : gShr (.int i) (.int j) H Q := ⟨i, j, rfl, rfl, c, k⟩
theorem w_andI (k : Q (.int (Builtin.bitAnd i j)) H) : gAnd (.int i) (.int j) H Q := ⟨i, j, rfl, rfl, k⟩
theorem w_ltI (k : Q (.bl (decide (i < j))) H) : gLt (.int i) (.int j) H Q := ⟨i, j, rfl, rfl, k⟩
theorem w_leI (k : Q (.bl (decide (i ≤ j))) H) : gLe (.int i) (.int j) H Q := ⟨i, j, rfl, rfl, k⟩
theorem w_gtI (k : Q (.bl (decide (j < i))) H) : gGt (.int i) (.int j) H Q := ⟨i, j, rfl, rfl, k⟩
theorem w_geI (k : Q (.bl (decide (j ≤ i))) H) : gGe (.int i) (.int j) H Q := ⟨i, j, rfl, rfl, k⟩
theorem dV_int : decide (V.int i = V.int j) = decide (i = j) := by
  by_cases h : i = j
  · subst h; simp
  · rw [decide_eq_false h, decide_eq_false (fun e => h (V.int.inj e))]
theorem dV_str {s t : Str} : decide (V.str s = V.str t) = decide (s = t) := by
  by_cases h : s = t
  · subst h; simp
  · rw [decide_eq_false h, decide_eq_false (fun e => h (V.str.inj e))]
theorem w_eqI (k : Q (.bl (decide (i = j))) H) : gEq K (.int i) (.int j) H Q := .inl ⟨rfl, by rw [dV_int]; exact k⟩
theorem w_neI (k : Q (.bl (!decide (i = j))) H) : gNe K (.int i) (.int j) H Q := .inl ⟨rfl, by rw [dV_int]; exact k⟩
theorem w_eqS {s t : Str} (k : Q (.bl (decide (s = t))) H) : gEq K (.str s) (.str t) H Q := .inl ⟨rfl, by rw [dV_str]; exact k⟩
theorem w_neS {s t : Str} (k : Q (.bl (!decide (s = t))) H) : gNe K (.str s) (.str t) H Q := .inl ⟨rfl, by rw [dV_str]; exact k⟩
theorem w_lenL {p : Addr} {xs : List V} (h : SqL K H p xs) (k : Q (.int (xs.length : Int)) H) : gLen K [.ref p] H Q := .inl ⟨p, xs, rfl, .inl h, k⟩
theorem w_lenT {p : Addr} {xs : List V} (h : SqT K H p xs) (k : Q (.int (xs.length : Int)) H) : gLen K [.ref p] H Q := .inl ⟨p, xs, rfl, .inr h, k⟩
theorem w_lenS {s : Str} (z : s.length ≤ sizeLine) (k : Q (.int (s.length : Int)) H) : gLen K [.str s] H Q := .inr ⟨s, rfl, z, k⟩
theorem w_intB (k1 : b = true → Q (.int 1) H) (k0 : b = false → Q (.int 0) H) : gIntC [.bl b] H Q := .inr ⟨b, rfl, by cases b; exact k0 rfl; exact k1 rfl⟩
theorem w_intD {c : Prop} [Decidable c] (k1 : c → Q (.int 1) H) (k0 : ¬ c → Q (.int 0) H) : gIntC [.bl (decide c)] H Q := w_intB (fun e => k1 (of_decide_eq_true e)) (fun e => k0 (of_decide_eq_false e))
theorem w_intDn {c : Prop} [Decidable c] (k1 : ¬ c → Q (.int 1) H) (k0 : c → Q (.int 0) H) : gIntC [.bl (!decide c)] H Q := w_intB (fun e => k1 (fun z => by rw [decide_eq_true z] at e; cases e)) (fun e => k0 (Decidable.byContradiction fun z => by rw [decide_eq_false z] at e; cases e))
theorem w_intI (k : Q (.int i) H) : gIntC [.int i] H Q := .inl ⟨i, rfl, k⟩
theorem w_max (k : Q (.int (max i j)) H) : gMax [.int i, .int j] H Q := ⟨i, j, rfl, by
  have e : (if j > i then j else i) = max i j := by split <;> omega
  rw [e]; exact k⟩
theorem w_min (k : Q (.int (min i j)) H) : gMin [.int i, .int j] H Q := ⟨i, j, rfl, by
  have e : (if j < i then j else i) = min i j := by split <;> omega
  rw [e]; exact k⟩
theorem w_ixL {p : Addr} {xs : List V} (h : SqL K H p xs) (a : atI xs i = some v) (k : Q v H) : rIx K (.ref p) (.int i) H Q := .inl ⟨p, xs, i, v, rfl, rfl, h, a, k⟩
theorem w_ixT {p : Addr} {xs : List V} (h : SqT K H p xs) (a : atI xs i = some v) (k : Q v H) : rIx K (.ref p) (.int i) H Q := .inr (.inl ⟨p, xs, i, v, rfl, rfl, h, a, k⟩)
theorem w_ixS {z : Str} {c : Nat} (h : z.length ≤ sizeLine) (a : atI z.cps.toList i = some c) (k : Q (.str ⟨#[c]⟩) H) : rIx K (.str z) (.int i) H Q := .inr (.inr ⟨z, i, c, rfl, rfl, h, a, k⟩)
/-! tests -/
theorem w_test (k : te σ H fun x H' => IsBl x fun k => QT k H') : tTest te σ H QT := k
theorem w_isbl {R : Bool → Prop} (k : R b) : IsBl (.bl b) R := ⟨b, rfl, k⟩
theorem w_B (k : te σ H fun x H' => IsBl x fun k => QT k H') : tB te σ H QT := k
theorem w_and (k : tt σ H fun c H1 => if c = true then tu σ H1 QT else QT false H1) : tAnd tt tu σ H QT := k
theorem w_or (k : tt σ H fun c H1 => if c = true then QT true H1 else tu σ H1 QT) : tOr tt tu σ H QT := k
theorem w_not (k : tt σ H fun c H1 => QT (!c) H1) : tNot tt σ H QT := k
theorem w_ife (k : tt σ H fun c H1 => if c = true then ta σ H1 Q else tb σ H1 Q) : tIf tt ta tb σ H Q := k
theorem w_andV (k : ta σ H fun x H1 => IsBl x fun c => if c = true then tb σ H1 Q else Q (.bl false) H1) : tAndV ta tb σ H Q := k
theorem w_orV (k : ta σ H fun x H1 => IsBl x fun c => if c = true then Q (.bl true) H1 else tb σ H1 Q) : tOrV ta tb σ H Q := k
theorem w_notV (k : ta σ H fun x H1 => IsBl x fun c => Q (.bl (!c)) H1) : tNotV ta σ H Q := k
theorem w_if {c A B : Prop} [Decidable c] (h1 : c → A) (h2 : ¬ c → B) : if decide c = true then A else B := by
  by_cases h : c
  · rw [decide_eq_true h]; exact h1 h
  · rw [decide_eq_false h]; exact h2 h
theorem w_ifn {c A B : Prop} [Decidable c] (h1 : ¬ c → A) (h2 : c → B) : if (!decide c) = true then A else B := by
  by_cases h : c
  · rw [decide_eq_true h]; exact h2 h
  · rw [decide_eq_false h]; exact h1 h
theorem w_ifnn {c A B : Prop} [Decidable c] (h1 : c → A) (h2 : ¬ c → B) : if (!!decide c) = true then A else B := by
  by_cases h : c
  · rw [decide_eq_true h]; exact h1 h
  · rw [decide_eq_false h]; exact h2 h
theorem w_ifB {A B : Prop} (h1 : b = true → A) (h2 : b = false → B) : if b = true then A else B := by
  cases b
  · exact h2 rfl
  · exact h1 rfl
theorem w_ifT {A B : Prop} (h : A) : if true = true then A else B := h
theorem w_ifF {A B : Prop} (h : B) : if false = true then A else B := h
theorem w_ifNT {A B : Prop} (h : B) : if (!true) = true then A else B := h
theorem w_ifNF {A B : Prop} (h : A) : if (!false) = true then A else B := h
/-! statements -/
theorem w_seq {n c d : L2.St → Hp → Prop} {r : VK} (k : t1 (En (t2 (En n r c d)) r c d) σ H) : tSeq t1 t2 (En n r c d) σ H := k
theorem w_asg {n : Nat} (k : te σ H fun x H1 => NX D (σ.set n (some x)) H1) : tAsg te (gName n) D σ H := k
theorem w_asgG {g : TG} (k : te σ H fun x H1 => g x σ H1 (NX D)) : tAsg te g D σ H := k
def Par (n m : Nat) (D : Ends) (σ : L2.St) (vs : List V) (H : Hp) : Prop := ∃ v w, vs = [v, w] ∧ D.nx ((σ.set n (some v)).set m (some w)) H
theorem w_par {n m : Nat} {t : TA} (k : t σ H fun vs H1 => Par n m D σ vs H1) : tPar n m t D σ H := k
theorem w_parE {n m : Nat} (k : NX D ((σ.set n (some x)).set m (some y)) H) : Par n m D σ [x, y] H := ⟨x, y, rfl, k⟩
def Par3 (n m l : Nat) (D : Ends) (σ : L2.St) (vs : List V) (H : Hp) : Prop := ∃ u v w, vs = [u, v, w] ∧ D.nx (((σ.set n (some u)).set m (some v)).set l (some w)) H
theorem w_par3 {n m l : Nat} {t : TA} (k : t σ H fun vs H1 => Par3 n m l D σ vs H1) : tPar3 n m l t D σ H := k
theorem w_par3E {n m l : Nat} {z : V} (k : NX D (((σ.set n (some x)).set m (some y)).set l (some z)) H) : Par3 n m l D σ [x, y, z] H := ⟨x, y, z, rfl, k⟩
theorem w_aug {n : Nat} {ti : TIp} (h : σ[n]? = some (some x)) (k : te σ H fun y H1 => ti x y H1 fun z H2 => NX D (σ.set n (some z)) H2) : tAug n te ti D σ H := ⟨x, h, k⟩
theorem w_ret (k : te σ H fun v H1 => RT D v H1) : tRet te D σ H := k
theorem w_drop (k : te σ H fun _ H1 => NX D σ H1) : tDrop te D σ H := k
theorem w_ifs (k : tt σ H fun b H1 => if b = true then t1 D σ H1 else t2 D σ H1) : tIfS tt t1 t2 D σ H := k
theorem w_next (k : NX D σ H) : tNext D σ H := k
theorem w_nx {n c d : L2.St → Hp → Prop} {r : VK} (k : n σ H) : NX (En n r c d) σ H := k
theorem w_rt {n c d : L2.St → Hp → Prop} {r : VK} (k : r v H) : RT (En n r c d) v H := k
theorem w_start {n : L2.St → Hp → Prop} {r : VK} {t : TS} (k : t (En n r (fun _ _ => False) (fun _ _ => False)) σ H) : t { nx := n, rt := r } σ H := k
theorem w_gname {n : Nat} {R : L2.St → Hp → Prop} (k : R (σ.set n (some v)) H) : gName n v σ H R := k
theorem w_gnil {R : L2.St → Hp → Prop} (k : R σ H) : gNil [] σ H R := ⟨rfl, k⟩
theorem w_gcons {g : TG} {u : TGs} {r : List V} {R : L2.St → Hp → Prop} (k : g v σ H fun σ' H' => u r σ' H' R) : gCons g u (v :: r) σ H R := ⟨v, r, rfl, k⟩
theorem w_gtup {a : Addr} {xs : List V} {n : Nat} {u : TGs} {R : L2.St → Hp → Prop} (h : SqT K H a xs) (l : xs.length = n) (k : u xs σ H R) : gTup2 K n u (.ref a) σ H R := ⟨a, xs, rfl, h, l, k⟩
theorem w_gsub {to ti : TE} {t : TSet} {R : L2.St → Hp → Prop} (k : to σ H fun o H1 => ti σ H1 fun i H2 => t o i v H2 fun H3 => R σ H3) : gSub to ti t v σ H R := k
theorem w_setL {l : Addr} {xs : List V} {n : Nat} {R : Hp → Prop} (h : H l = some (.lst xs)) (e : ixN xs.length i = some n) (k : ∀ H', Kp l H H' → H' l = some (.lst (xs.set n v)) → R H') : rSetL (.ref l) (.int i) v H R :=
  ⟨l, xs, i, n, rfl, rfl, h, e, k _ kp_upd upd_same⟩
theorem w_bm {T : String} {r : V → List V → Hp → VK → Prop} {to : TE} {t : TA} (k : to σ H fun x H1 => BmE K T x H1 (t σ H1 fun xs H2 => r x xs H2 Q)) : tBM K T r to t σ H Q := k
theorem w_bmL {l : Addr} {xs : List V} {R : Prop} (h : H l = some (.lst xs)) (k : R) : BmE K "list" (.ref l) H R := ⟨.inl ⟨rfl, xs, Or.inl (Or.inl h)⟩, k⟩
theorem w_app {l : Addr} {xs : List V} (h : H l = some (.lst xs)) (z : xs.length < sizeLine) (k : ∀ H', Kp l H H' → H' l = some (.lst (xs ++ [v])) → Q .non H') : rAppend (.ref l) [v] H Q :=
  ⟨l, xs, v, rfl, rfl, h, z, k _ kp_upd upd_same⟩
theorem ty_list {l : Addr} {xs : List V} (h : H l = some (.lst xs)) : tyV K "list" (.ref l) H := .inl ⟨rfl, xs, sq_of h⟩
theorem w_slL {a : Addr} {xs : List V} {lo hi : Option Int} (h : SqL K H a xs) (k : ∀ p H', H p = none → Sm H H' → H' p = some (.lst (cutV xs lo hi)) → Q (.ref p) H') : rSlL K (.ref a) lo hi H Q := ⟨a, xs, rfl, h, fun p hp => k p _ hp (sm_new hp) upd_same⟩
theorem w_sl {r : V → Option Int → Option Int → Hp → VK → Prop} {tl th : TO} (k : te σ H fun x H1 => tl σ H1 fun l H2 => th σ H2 fun u H3 => r x l u H3 Q) : tSl r te tl th σ H Q := k
theorem w_po0 {R : Option Int → Hp → Prop} (k : R none H) : tNoPart σ H R := k
theorem w_po1 {R : Option Int → Hp → Prop} (k : te σ H fun x H1 => PartE R x H1) : tPart te σ H R := k
theorem w_poE {R : Option Int → Hp → Prop} (k : R (some i) H) : PartE R (.int i) H := ⟨i, rfl, k⟩
end
end Rs
namespace Rs
open PySem L2 PyProof.Rows PySem.NumText
/-! ### the walk's own words -/
local macro_rules | `(tactic| tm_at "rlk") => `(tactic| first | with_reducible assumption | ((refine' g_lk ?sg ?sh); (case sg => with_reducible assumption); (case sh => tm_at "rlk0")) | fail "no")
local macro_rules | `(tactic| tm_at "rlk0") => `(tactic| first | with_reducible assumption | (refine' Same.get ?sa ?sb; (case sa => with_reducible assumption); (case sb => tm_at "rlk0")) | (refine' Kp.get ?sa ?sc ?sb; (case sa => with_reducible assumption); (case sc => tm_at "rne"); (case sb => tm_at "rlk0")) | fail "no")
local macro_rules | `(tactic| tm_at "rne") => `(tactic| first | with_reducible assumption | (apply Ne.symm; assumption) | (refine' ne_new ?sa ?sb; (case sa => with_reducible assumption); (case sb => tm_at "rlk")) | (refine' ne_new2 ?sa ?sb; (case sa => with_reducible assumption); (case sb => tm_at "rlk")) | fail "no")
local macro_rules | `(tactic| tm_at "rsf") => `(tactic| first | with_reducible assumption | ((refine' g_sqf ?sg ?sh); (case sg => with_reducible assumption); (case sh => tm_at "rsf0")) | fail "no")
local macro_rules | `(tactic| tm_at "rsf0") => `(tactic| first | with_reducible assumption | ((refine' SqF.sm ?sa ?sb); (case sb => with_reducible assumption); (case sa => tm_at "rsf0")) | ((refine' SqF.kp ?sa ?sc ?sb); (case sb => with_reducible assumption); (case sc => tm_at "rlk"); (case sa => tm_at "rsf0")) | fail "no")
local macro_rules | `(tactic| tm_at "rsq") => `(tactic| first | with_reducible assumption | ((refine' SqF.sq ?sz); (case sz => tm_at "rsf")) | ((refine' sq_of ?sz); (case sz => tm_at "rlk")) | (refine' sm_sq ?sa ?sb; (case sa => with_reducible assumption); (case sb => tm_at "rsq")) | (refine' kp_sq ?sa ?sc ?sb; (case sa => with_reducible assumption); (case sc => tm_at "rne"); (case sb => tm_at "rsq")) | fail "no")
local macro_rules | `(tactic| tm_at "rst") => `(tactic| first | with_reducible assumption | ((refine' st_of ?sz); (case sz => tm_at "rlk")) | fail "no")
local macro_rules | `(tactic| tm_at "rat") => `(tactic| first | with_reducible assumption | exact atI_nat (j := 0) rfl | exact atI_nat (j := 1) rfl | exact atI_nat (j := 2) rfl | exact atI_nat (j := 3) rfl | exact atI_nat (j := 4) rfl | exact atI_nat (j := 5) rfl | fail "no")
local macro_rules | `(tactic| tm_at "rsz") => `(tactic| first | with_reducible assumption | exact sz_of (Nat.le_of_ble_eq_true rfl) | (apply sz_of; omega) | ((refine sz_of (Nat.le_trans (Nat.add_le_add_left (cutV_length _ _ _) _) ?_)); omega) | ((refine sz_of (Nat.le_trans (Nat.add_le_add_left (cutV_length _ _ _) _) ?_)); (simp only [List.length_cons, List.length_nil, List.length_append]); omega) | (apply sz_lt; omega) | ((apply sz_of); (simp only [List.length_cons, List.length_nil, List.length_append]); omega) | ((apply sz_lt); (simp only [List.length_cons, List.length_nil, List.length_append]); omega) | decide | fail "no")
local macro_rules | `(tactic| tm_at "rc") => `(tactic| first | with_reducible assumption | exact .inl (.inl (by decide)) | exact .inl (.inr (by decide)) | exact .inl (.inl ⟨by omega, by omega⟩) | exact .inl (.inr ⟨by omega, by omega⟩) | fail "no")
local macro_rules | `(tactic| tm_at "rfr") => `(tactic| first | with_reducible assumption | ((refine' g_fr ?sg ?sh); (case sg => with_reducible assumption); (case sh => tm_at "rfr0")) | fail "no")
local macro_rules | `(tactic| tm_at "rfr0") => `(tactic| first | with_reducible assumption | ((refine' Same.free ?sa ?sb); (case sa => with_reducible assumption); (case sb => tm_at "rfr0")) | ((refine' kp_free ?sa ?sc ?sb); (case sa => with_reducible assumption); (case sb => tm_at "rfr0"); (case sc => tm_at "rne")) | fail "no")
local macro_rules | `(tactic| tm_at "rsm") => `(tactic| first | with_reducible assumption | exact Same.refl _ | ((refine' Same.trans ?sa ?sb); (case sb => with_reducible assumption); (case sa => tm_at "rsm")) | ((refine' sm_mut ?sa ?sc ?sb); (case sb => with_reducible assumption); (case sc => tm_at "rfr"); (case sa => tm_at "rsm")) | fail "no")
local macro_rules | `(tactic| tm_at "rkp") => `(tactic| first | with_reducible assumption | exact Kp.refl _ | ((refine' Kp.trans ?sa ?sb); (case sb => first | with_reducible assumption | exact Kp.of (by with_reducible assumption)); (case sa => tm_at "rkp")) | ((refine' kp_mut ?sa ?sc ?sb); (case sb => with_reducible assumption); (case sc => tm_at "rfr"); (case sa => tm_at "rkp")) | fail "no")
local macro_rules | `(tactic| tm_at "rs") => `(tactic| first
  | ((with_reducible refine' w_var ?h ?k); (case h => rfl))
  | with_reducible refine w_seq ?_
  | with_reducible refine w_nx ?_
  | with_reducible refine w_rt ?_
  | with_reducible refine w_c ?_
  | with_reducible refine w_op ?_
  | with_reducible refine w_un ?_
  | with_reducible refine w_cb ?_
  | with_reducible refine w_cons ?_
  | with_reducible refine w_nil ?_
  | with_reducible refine w_asg ?_
  | with_reducible refine w_ret ?_
  | with_reducible refine w_ifs ?_
  | with_reducible refine w_call ?_
  | with_reducible refine w_callK ?_
  | with_reducible refine w_test ?_
  | with_reducible refine w_isbl ?_
  | with_reducible refine w_addI ?_
  | with_reducible refine w_I0 ?_
  | ((with_reducible refine w_andF ?h ?i (fun _ _ _ _ _ => ?_)); (case h => omega); (case i => omega))
  | with_reducible refine w_andI ?_
  | with_reducible refine w_ltI ?_
  | with_reducible refine w_leI ?_
  | with_reducible refine w_gtI ?_
  | with_reducible refine w_geI ?_
  | with_reducible refine w_eqI ?_
  | with_reducible refine w_neI ?_
  | with_reducible refine w_isN0 ?_
  | with_reducible refine w_notN0 ?_
  | ((with_reducible refine w_isNx ?h ?_); (case h => (intro e; cases e)))
  | ((with_reducible refine w_notNx ?h ?_); (case h => (intro e; cases e)))
  | with_reducible refine w_isBT ?_
  | with_reducible refine w_notBT ?_
  | with_reducible refine w_eqB ?_
  | with_reducible refine w_neB ?_
  | ((with_reducible refine w_orF ?h ?i (fun _ _ _ _ => ?_)); (case h => omega); (case i => omega))
  | with_reducible refine w_eqS ?_
  | with_reducible refine w_neS ?_
  | with_reducible refine w_max ?_
  | with_reducible refine w_min ?_
  | with_reducible refine w_intI ?_
  | with_reducible refine w_lst ?_
  | with_reducible refine w_tup ?_
  | with_reducible refine w_ifT ?_
  | with_reducible refine w_ifNT ?_
  | with_reducible refine w_ifNF ?_
  | with_reducible refine w_ifF ?_
  | with_reducible refine w_or ?_
  | with_reducible refine w_and ?_
  | with_reducible refine w_not ?_
  | with_reducible refine w_ife ?_
  | with_reducible refine w_andV ?_
  | with_reducible refine w_orV ?_
  | with_reducible refine w_notV ?_
  | with_reducible refine w_B ?_
  | with_reducible refine w_next ?_
  | with_reducible refine w_drop ?_
  | with_reducible refine w_par ?_
  | with_reducible refine w_parE ?_
  | with_reducible refine w_par3 ?_
  | with_reducible refine w_par3E ?_
  | with_reducible refine w_asgG ?_
  | with_reducible refine w_gsub ?_
  | with_reducible refine w_bm ?_
  | with_reducible refine w_sl ?_
  | with_reducible refine w_po0 ?_
  | with_reducible refine w_po1 ?_
  | with_reducible refine w_poE ?_
  | with_reducible refine w_for ?_
  | with_reducible refine w_iR1 ?_
  | with_reducible refine w_iR2 ?_
  | with_reducible refine w_iL ?_
  | with_reducible refine w_iT ?_
  | with_reducible refine w_sp ?_
  | ((with_reducible refine' w_aug ?h ?k); (case h => rfl))
  | with_reducible refine w_wt ?_
  | with_reducible refine w_shr1 ?_
  | with_reducible refine w_iaddI ?_
  | with_reducible refine w_xorI ?_
  | with_reducible refine w_isiIb ?_
  | with_reducible refine w_isiIi ?_
  | with_reducible refine w_isiBb ?_
  | with_reducible refine w_isiSs ?_
  | with_reducible refine w_gname ?_
  | with_reducible refine w_gnil ?_
  | with_reducible refine w_gcons ?_
  | ((with_reducible refine' w_gtup ?h ?l ?k); (case h => tm_at "rst"); (case l => rfl))
  | ((with_reducible refine w_imulI ?h ?_); (case h => tm_at "rc"))
  | ((with_reducible refine w_shl1F ?h ?i (fun _ _ _ _ _ _ => ?_)); (case h => omega); (case i => omega))
  | with_reducible refine w_bits ?_
  | with_reducible refine w_bitsE (fun _ _ _ => ?_)
  | ((with_reducible refine w_shlI ?h ?_); (case h => first | assumption | exact ⟨by decide, by decide⟩))
  | ((with_reducible refine w_modI ?h ?_); (case h => decide))
  | ((with_reducible refine w_modF ?h (fun _ _ _ _ _ => ?_)); (case h => omega))
  | ((with_reducible refine w_divI ?h ?_); (case h => (first | assumption | exact ⟨by decide, by decide +kernel⟩ | exact ⟨by assumption, by assumption⟩)))
  | ((with_reducible refine w_mulI ?h ?_); (case h => tm_at "rc"))
  | ((with_reducible refine w_powI ?h ?_); (case h => exact ⟨by decide, by decide, by decide +kernel⟩))
  | ((with_reducible refine w_shrI ?h ?_); (case h => (first | decide | omega)))
  | with_reducible refine w_intD (fun _ => ?_) (fun _ => ?_)
  | with_reducible refine w_intDn (fun _ => ?_) (fun _ => ?_)
  | with_reducible refine w_intB (fun _ => ?_) (fun _ => ?_)
  | ((with_reducible refine' w_lenL ?h ?k); (case h => tm_at "rsq"))
  | ((with_reducible refine' w_lenT ?h ?k); (case h => tm_at "rst"))
  | ((with_reducible refine' w_ixL ?h ?a ?k); (case h => tm_at "rsq"); (case a => tm_at "rat"))
  | ((with_reducible refine' w_ixT ?h ?a ?k); (case h => tm_at "rst"); (case a => tm_at "rat"))
  | ((with_reducible refine w_newL ?h (fun _ _ _ _ _ => ?_)); (case h => exact sz_of (Nat.le_of_ble_eq_true rfl)))
  | ((with_reducible refine w_newT ?h (fun _ _ _ _ _ => ?_)); (case h => exact sz_of (Nat.le_of_ble_eq_true rfl)))
  | ((with_reducible refine' w_ix2I ?h ?a ?b (fun _ _ => ?k)); (case h => tm_at "rsq"); (case a => omega); (case b => omega))
  | ((with_reducible refine' w_ix3I ?h ?a ?b (fun _ _ => ?k)); (case h => tm_at "rsq"); (case a => omega); (case b => omega))
  | ((with_reducible refine' w_ix4I ?h ?a ?b (fun _ _ => ?k)); (case h => tm_at "rsq"); (case a => omega); (case b => omega))
  | ((with_reducible refine' w_ix5I ?h ?a ?b (fun _ _ => ?k)); (case h => tm_at "rsq"); (case a => omega); (case b => omega))
  | ((with_reducible refine' w_ix6I ?h ?a ?b (fun _ _ => ?k)); (case h => tm_at "rsq"); (case a => omega); (case b => omega))
  | ((with_reducible refine' w_ix7I ?h ?a ?b (fun _ _ => ?k)); (case h => tm_at "rsq"); (case a => omega); (case b => omega))
  | ((with_reducible refine' w_ix8I ?h ?a ?b (fun _ _ => ?k)); (case h => tm_at "rsq"); (case a => omega); (case b => omega))
  | ((with_reducible refine' w_sum ?h ?k); (case h => tm_at "rsq"))
  | ((with_reducible refine' w_all ?h ?k); (case h => tm_at "rsq"))
  | with_reducible refine w_lc ?_
  | with_reducible refine w_yes ?_
  | ((with_reducible refine w_lcGo ?h ?_); (case h => rfl))
  | ((with_reducible refine' w_lcEnd ?h ?z (fun _ _ _ => ?k)); (case h => tm_at "rlk"); (case z => tm_at "rsz"))
  | with_reducible refine w_if (fun _ => ?_) (fun _ => ?_)
  | with_reducible refine w_ifn (fun _ => ?_) (fun _ => ?_)
  | with_reducible refine w_ifnn (fun _ => ?_) (fun _ => ?_)
  | ((with_reducible refine' w_setL ?h ?e (fun _ _ _ => ?k)); (case h => tm_at "rlk"); (case e => rfl))
  | ((with_reducible refine' w_bmL ?h ?k); (case h => tm_at "rlk"))
  | ((with_reducible refine' w_app ?h ?z (fun _ _ _ => ?k)); (case h => tm_at "rlk"); (case z => tm_at "rsz"))
  | ((with_reducible refine' w_slL ?h (fun _ _ _ _ _ => ?k)); (case h => tm_at "rsq"))
  | ((with_reducible refine' w_addL ?h ?i ?z (fun _ _ _ _ _ => ?k)); (case h => tm_at "rlk"); (case i => tm_at "rlk"); (case z => tm_at "rsz"))
  | ((with_reducible refine' w_iLe ?h ?k); (case h => tm_at "rsq"))
  | ((with_reducible refine' w_iTe ?h ?k); (case h => tm_at "rst"))
  | ((with_reducible refine w_iR1e ?h ?i ?_); (case h => omega); (case i => omega))
  | ((with_reducible refine w_iR2e ?h ?_); (case h => (refine ⟨?_, ?_, ?_, ?_⟩ <;> omega)))
  | fail "no")
def topS (i : Nat) : Stmt := PySem.Challenge.pw_runsums_k18_bits_written_and_read.main.body.getD i (.Pass ⟨0, 0, 0, 0⟩)
abbrev s_f_law_box : Stmt := topS 8
theorem sc_f_law_box : FnScope ["script", "k", "cell", "seed"] ["script", "k"] (defScope s_f_law_box) := ⟨rfl, rfl, rfl, by decide +kernel, rfl, by decide +kernel, by decide +kernel⟩
abbrev s_f_law_text : Stmt := topS 10
theorem sc_f_law_text : FnScope ["number", "text"] ["number"] (defScope s_f_law_text) := ⟨rfl, rfl, rfl, by decide +kernel, rfl, by decide +kernel, by decide +kernel⟩
abbrev s_f_bits_of : Stmt := topS 3
theorem sc_f_bits_of : FnScope ["number", "found"] ["number"] (defScope s_f_bits_of) := ⟨rfl, rfl, rfl, by decide +kernel, rfl, by decide +kernel, by decide +kernel⟩
abbrev s_f_of_bits : Stmt := topS 4
theorem sc_f_of_bits : FnScope ["text", "at", "sign"] ["text"] (defScope s_f_of_bits) := ⟨rfl, rfl, rfl, by decide +kernel, rfl, by decide +kernel, by decide +kernel⟩
abbrev s_f_law_take : Stmt := topS 6
theorem sc_f_law_take : FnScope ["box", "wide", "digit", "one"] ["box", "wide"] (defScope s_f_law_take) := ⟨rfl, rfl, rfl, by decide +kernel, rfl, by decide +kernel, by decide +kernel⟩
abbrev s_f_law_number : Stmt := topS 7
theorem sc_f_law_number : FnScope ["box", "form"] ["box"] (defScope s_f_law_number) := ⟨rfl, rfl, rfl, by decide +kernel, rfl, by decide +kernel, by decide +kernel⟩
abbrev s_f_law_any : Stmt := topS 9
theorem sc_f_law_any : FnScope ["box", "form"] ["box"] (defScope s_f_law_any) := ⟨rfl, rfl, rfl, by decide +kernel, rfl, by decide +kernel, by decide +kernel⟩
abbrev s_f_law : Stmt := topS 11
theorem sc_f_law : FnScope ["script", "some", "k", "box", "number", "more", "text", "found", "one", "told"] ["script"] (defScope s_f_law) := ⟨rfl, rfl, rfl, by decide +kernel, rfl, by decide +kernel, by decide +kernel⟩

/-! a box of draws -/
def BoxAt (H : Hp) (b : Addr) : Prop := ∃ x s : Int, H b = some (.lst [.int x, .int s]) ∧ 0 ≤ x ∧ 0 ≤ s ∧ s ≤ 2147483629
theorem BoxAt.sm {H H' : Hp} {b : Addr} (h : BoxAt H b) (e : Sm H H') : BoxAt H' b := by
  obtain ⟨x, s, h, r⟩ := h
  exact ⟨x, s, e _ _ h, r⟩
theorem BoxAt.kp {H H' : Hp} {b c : Addr} (h : BoxAt H b) (n : b ≠ c) (e : Kp c H H') : BoxAt H' b := by
  obtain ⟨x, s, h, r⟩ := h
  exact ⟨x, s, e _ _ n h, r⟩
theorem BoxAt.lst {H : Hp} {b : Addr} (h : BoxAt H b) : ∃ xs, H b = some (.lst xs) := by
  obtain ⟨x, s, h, r⟩ := h
  exact ⟨_, h⟩
def Wd (w : Int) : Prop := 0 < w ∧ w.natAbs.log2 < 9000
theorem wd_of {w : Int} (h0 : 0 < w) (h : w ≤ 10 ^ 60) : Wd w := by
  refine ⟨h0, ?_⟩
  have h1 : w.natAbs ≠ 0 := by omega
  rw [Nat.log2_lt h1]
  have h2 : w.natAbs ≤ 10 ^ 60 := by omega
  exact Nat.lt_of_le_of_lt h2 (by decide +kernel)
theorem wd_pow {w : Int} {k : Nat} (h0 : 0 < w) (h : w ≤ 2 ^ k) (hk : k < 9000) : Wd w := by
  refine ⟨h0, ?_⟩
  have h1 : w.natAbs ≠ 0 := by omega
  rw [Nat.log2_lt h1]
  have h2 : (w.natAbs : Int) ≤ ((2 ^ k : Nat) : Int) := by
    rw [Int.natCast_pow]
    have e : ((w.natAbs : Nat) : Int) = w := by omega
    rw [e]; exact h
  have h3 : w.natAbs ≤ 2 ^ k := Int.ofNat_le.mp h2
  exact Nat.lt_of_le_of_lt h3 (Nat.pow_lt_pow_right (by decide) hk)
/-- 10 to the power of 800 -/
def N800 : Int := 10 ^ 800
theorem n800_pos : 10 ^ 60 < N800 := by decide +kernel
theorem n800_le : N800 < 2 ^ 2660 := by decide +kernel
theorem n800_eq : N800 = 10 ^ 800 := rfl
theorem wd_800 {w : Int} (h0 : 0 < w) (h : w ≤ N800 + 10) : Wd w := wd_pow (k := 2661) h0 (by
  have h1 := n800_le
  have h2 : (2 : Int) ^ 2660 + 10 ≤ 2 ^ 2661 := by decide +kernel
  exact Int.le_trans (Int.le_trans h (Int.le_of_lt (Int.add_lt_add_right h1 10))) h2) (by decide)
theorem wd_two {z j : Int} (e : z = 2 ^ j.toNat) (l : j < 9000) : Wd z := by
  have h1 : (1 : Int) ≤ 2 ^ j.toNat := by
    have := Nat.two_pow_pos j.toNat
    have h2 : (2 : Int) ^ j.toNat = ((2 ^ j.toNat : Nat) : Int) := by rw [Int.natCast_pow]; rfl
    omega
  exact wd_pow (k := j.toNat) (by omega) (by omega) (by omega)

theorem ne_newB {H : Hp} {p b : Addr} (hp : H p = none) (hb : BoxAt H b) : p ≠ b := by
  obtain ⟨x, s, h, _⟩ := hb
  exact ne_new hp h
theorem ne_newB2 {H : Hp} {p b : Addr} (hp : H p = none) (hb : BoxAt H b) : b ≠ p := (ne_newB hp hb).symm
theorem g_bx {H H0 : Hp} {b : Addr} (_ : BoxAt H0 b) (h : BoxAt H b) : BoxAt H b := h
local macro_rules | `(tactic| tm_at "rbx") => `(tactic| first | with_reducible assumption | ((refine' g_bx ?sg ?sh); (case sg => with_reducible assumption); (case sh => tm_at "rbx0")) | fail "no")
local macro_rules | `(tactic| tm_at "rbx0") => `(tactic| first | with_reducible assumption | ((refine' BoxAt.sm ?sa ?sb); (case sb => with_reducible assumption); (case sa => tm_at "rbx0")) | ((refine' BoxAt.kp ?sa ?sc ?sb); (case sb => with_reducible assumption); (case sc => tm_at "rne"); (case sa => tm_at "rbx0")) | fail "no")
local macro_rules | `(tactic| tm_at "rne") => `(tactic| first | ((refine' ne_newB ?sa ?sb); (case sa => with_reducible assumption); (case sb => tm_at "rbx")) | ((refine' ne_newB2 ?sa ?sb); (case sa => with_reducible assumption); (case sb => tm_at "rbx")) | fail "no")
theorem AllT.kpB {P : List V → Prop} {xs : List V} {H H' : Hp} {b : Addr} (h : AllT P xs H) (hb : BoxAt H b) (e : Kp b H H') : AllT P xs H' := by
  obtain ⟨x, s, hb, _⟩ := hb
  exact h.kp hb e
local macro_rules | `(tactic| tm_at "rall") => `(tactic| first | with_reducible assumption | exact AllT.nil | ((refine' AllT.add ?sa ?sb ?sp); (case sa => tm_at "rall"); (case sb => tm_at "rlk"); (case sp => with_reducible assumption)) | ((refine' AllT.add ?sa ?sb ?sp); (case sa => tm_at "rall"); (case sb => tm_at "rlk")) | ((refine' AllT.app ?sa ?sb); (case sa => tm_at "rall"); (case sb => tm_at "rall")) | ((refine' AllT.cut ?sa); (case sa => tm_at "rall")) | ((refine' AllT.sm ?sa ?sb); (case sb => with_reducible assumption); (case sa => tm_at "rall")) | ((refine' AllT.kpB ?sa ?sc ?sb); (case sb => with_reducible assumption); (case sc => tm_at "rbx"); (case sa => tm_at "rall")) | ((refine' AllT.kp ?sa ?sc ?sb); (case sb => with_reducible assumption); (case sc => tm_at "rlk"); (case sa => tm_at "rall")) | fail "no")
theorem SqF.kpB {K : PySem.W.Frag} {xs : List V} {a : Addr} {H H' : Hp} {b : Addr} (h : SqF K H a xs) (hb : BoxAt H b) (e : Kp b H H') : SqF K H' a xs := by
  obtain ⟨x, s, hb, _⟩ := hb
  exact h.kp hb e
local macro_rules | `(tactic| tm_at "rsf0") => `(tactic| ((refine' SqF.kpB ?sa ?sc ?sb); (case sb => with_reducible assumption); (case sc => tm_at "rbx"); (case sa => tm_at "rsf0")))
local macro_rules | `(tactic| tm_at "rz") => `(tactic| first | with_reducible assumption | tm_at "rfr" | tm_at "rkp" | tm_at "rsm" | tm_at "rbx" | tm_at "rsf" | tm_at "rlk" | tm_at "rsq" | tm_at "rne" | omega | fail "no")

/-! texts: signs of them -/
theorem tl_len (z : Str) : z.cps.toList.length = z.length := Array.length_toList
theorem w_ixSF {K : PySem.W.Frag} {H : Hp} {Q : VK} {z : Str} {i : Int} (zl : z.length ≤ 1000) (h0 : 0 ≤ i) (h1 : i < (z.length : Int)) (k : ∀ c : Nat, z.cps.toList[i.toNat]? = some c → Q (.str ⟨#[c]⟩) H) : rIx K (.str z) (.int i) H Q := by
  obtain ⟨j, rfl⟩ := Int.eq_ofNat_of_zero_le h0
  have h2 : j < z.cps.toList.length := by rw [tl_len]; omega
  exact .inr (.inr ⟨z, j, _, rfl, rfl, sz_of (by omega), atI_nat (List.getElem?_eq_getElem h2), k _ (List.getElem?_eq_getElem h2)⟩)
def gInS : R2 := fun x y H Q => ∃ (c : Nat) (z : Str), x = .str ⟨#[c]⟩ ∧ y = .str z ∧ Q (.bl (decide (c ∈ z.cps.toList))) H
def gNotInS : R2 := fun x y H Q => ∃ (c : Nat) (z : Str), x = .str ⟨#[c]⟩ ∧ y = .str z ∧ Q (.bl (!decide (c ∈ z.cps.toList))) H
theorem op_gInS {X : Cx} : OpR X (compareOp .In) gInS := op_in_sign
theorem op_gNotInS {X : Cx} : OpR X (compareOp .NotIn) gNotInS := op_notIn_sign
theorem w_inS {H : Hp} {Q : VK} {c : Nat} {z : Str} (k : Q (.bl (decide (c ∈ z.cps.toList))) H) : gInS (.str ⟨#[c]⟩) (.str z) H Q := ⟨c, z, rfl, rfl, k⟩
theorem w_notInS {H : Hp} {Q : VK} {c : Nat} {z : Str} (k : Q (.bl (!decide (c ∈ z.cps.toList))) H) : gNotInS (.str ⟨#[c]⟩) (.str z) H Q := ⟨c, z, rfl, rfl, k⟩
def ItsE (R : It → Hp → Prop) (v : V) (H1 : Hp) : Prop := ∃ x, v = .str x ∧ R (Its x) H1
theorem w_iS {σ : L2.St} {H : Hp} {te : TE} {R : It → Hp → Prop} (k : te σ H fun v H1 => ItsE R v H1) : iStr te σ H R := k
theorem w_iSe {H : Hp} {R : It → Hp → Prop} {z : Str} (k : R (Its z) H) : ItsE R (.str z) H := ⟨z, rfl, k⟩
theorem lcS {σ : L2.St} {H : Hp} {Q : VK} {g : TG} {tt : TT} {te : TE} {vs : List Nat} {z : Str} (Pv : Addr → Nat → Hp → Prop) (h0 : ∀ D H', H D = none → Sm H H' → H' D = some (.lst []) → Pv D 0 H')
    (hs : ∀ D i c H', H D = none → z.cps.toList[i]? = some c → Pv D i H' → g (.str ⟨#[c]⟩) (wipe σ vs) H' fun σ2 H2 => LcGo vs σ σ2 (tt σ2 H2 fun b H3 => if b = true then te σ2 H3 fun y H4 => LcEnd D y (Pv D (i + 1)) H4 else Pv D (i + 1) H3))
    (hd : ∀ D H', H D = none → Pv D z.length H' → Q (.ref D) H') : LcL (Its z) g tt te vs σ H Q := fun D hD =>
  lc_it walk_str (Pv D) (h0 D _ hD (sm_new hD) upd_same) (fun _ _ _ _ => trivial) (fun i x H1 H' hi p y => by
    obtain ⟨rfl, c, hc, rfl⟩ := y
    exact hs D i c _ hD (by rw [Array.getElem?_toList]; exact hc) p) (fun H' p => hd D H' hD p)
theorem app_len (a b : Str) : (a ++ b).length = a.length + b.length := Array.size_append
def ChE (r' : R2) (tc : TE) (σ : L2.St) (Q : VK) (y z : V) (H3 : Hp) : Prop := ∃ k, z = .bl k ∧ (if k = true then tc σ H3 fun w' H4 => r' y w' H4 Q else Q (.bl false) H3)
theorem w_chain {r r' : R2} {ta tb tc : TE} {σ : L2.St} {H : Hp} {Q : VK} (k : ta σ H fun x H1 => tb σ H1 fun y H2 => r x y H2 fun z H3 => ChE r' tc σ Q y z H3) : tChain r r' ta tb tc σ H Q := k
theorem w_chE {r' : R2} {tc : TE} {σ : L2.St} {Q : VK} {y : V} {H3 : Hp} {p : Prop} [Decidable p] (a : p → tc σ H3 fun w' H4 => r' y w' H4 Q) (b : ¬ p → Q (.bl false) H3) : ChE r' tc σ Q y (.bl (decide p)) H3 := by
  refine ⟨_, rfl, ?_⟩
  by_cases h : p
  · rw [if_pos (decide_eq_true h)]; exact a h
  · rw [if_neg (by rw [decide_eq_false h]; decide)]; exact b h
def JoinE (K : PySem.W.Frag) (x y : V) (Q : VK) (H : Hp) : Prop := ∃ a p, ∃ ys : List Str, x = .str a ∧ [y] = [.ref p] ∧ (SqL K H p (ys.map V.str) ∨ SqT K H p (ys.map V.str)) ∧ (ys.map (·.length)).sum + ys.length * a.length ≤ 16777216 ∧ Q (.str (Txt.join a ys)) H
theorem w_join {K : PySem.W.Frag} {to te : TE} {σ : L2.St} {H : Hp} {Q : VK} (k : to σ H fun x H1 => (∃ a, x = .str a) ∧ te σ H1 fun y H2 => JoinE K x y Q H2) :
    tM1 (fun x xs H Q => ∃ a p, ∃ ys : List Str, x = .str a ∧ xs = [.ref p] ∧ (SqL K H p (ys.map V.str) ∨ SqT K H p (ys.map V.str)) ∧ (ys.map (·.length)).sum + ys.length * a.length ≤ 16777216 ∧ Q (.str (Txt.join a ys)) H) to te σ H Q := k
theorem w_isS {P : Prop} {s : Str} (k : P) : (∃ a, V.str s = .str a) ∧ P := ⟨⟨_, rfl⟩, k⟩
theorem sum_ones : ∀ ys : List Str, (∀ y ∈ ys, y.length = 1) → (ys.map (·.length)).sum = ys.length
  | [], _ => rfl
  | y :: ys, h => by
    rw [List.map_cons, List.sum_cons, List.length_cons, sum_ones ys (fun z hz => h z (List.mem_cons_of_mem _ hz)), h y List.mem_cons_self, Nat.add_comm]
theorem w_joinE {K : PySem.W.Frag} {H : Hp} {Q : VK} {p : Addr} {ys : List Str} (h : SqL K H p (ys.map V.str)) (h1 : ∀ y ∈ ys, y.length = 1) (hn : ys.length ≤ 10000) (k : Q (.str (Txt.join (Str.ofString "") ys)) H) : JoinE K (.str (Str.ofString "")) (.ref p) Q H := by
  refine ⟨_, p, ys, rfl, rfl, .inl h, ?_, k⟩
  rw [sum_ones ys h1, show (Str.ofString "").length = 0 from rfl, Nat.mul_zero]
  omega
theorem w_slS {H : Hp} {Q : VK} {z : Str} {lo hi : Option Int} (zl : z.length ≤ 10000) (k : (cutS z lo hi).length ≤ z.length → Q (.str (cutS z lo hi)) H) : rSlS (.str z) lo hi H Q := ⟨z, rfl, sz_of (by omega), k (cutS_length _ _ _)⟩
theorem sgn_len (c : Nat) : (⟨#[c]⟩ : Str).length = 1 := rfl
local macro_rules | `(tactic| tm_at "rs") => `(tactic| first | with_reducible refine w_join ?_ | with_reducible refine w_isS ?_ | ((with_reducible refine w_slS ?h (fun _ => ?_)); (case h => first | omega | (simp only [app_len, sgn_len]; omega))) | with_reducible refine w_chain ?_ | with_reducible refine w_chE (fun _ => ?_) (fun _ => ?_) | with_reducible refine w_inS ?_ | with_reducible refine w_notInS ?_ | with_reducible refine w_iS ?_ | with_reducible refine w_iSe ?_ | ((with_reducible refine w_ixSF ?h ?i ?j (fun _ _ => ?_)); (case h => first | omega | decide); (case i => omega); (case j => first | omega | decide)) | ((with_reducible refine w_lenS ?h ?_); (case h => first | (apply sz_of; omega) | exact sz_of (by decide) | (apply sz_of; simp only [app_len, sgn_len]; omega))) | ((with_reducible refine w_addS ?h ?_); (case h => first | (apply sz_of; omega) | (apply sz_of; simp only [app_len, sgn_len]; omega) | exact sz_of (by decide))) | fail "no")

/-! int(text) and str(int) beyond 640 figures, up to 4300 -/
theorem nsIn_none {K : PySem.W.Frag} {h : Heap} {a : Addr} {mc : Str → Option Value} {n : Str} (X : K.In h) (G : h.Ns a mc) (e : PySem.W.nsIn K a n = some none) : mc n = none := by
  obtain ⟨o, es, ep, ho, hd, _, hf⟩ := G
  unfold PySem.W.nsIn at e
  split at e
  · rename_i c d es' n' sl q
    have := X _ _ q
    rw [ho] at this
    cases this
    cases hd
    split at e
    · cases e
    · rename_i he
      rw [← hf]
      unfold nsFind findBy
      rw [← Array.find?_toList, he]
      rfl
  · cases e
/-- nothing has set how many figures a text may have -/
def NoDig (K : PySem.W.Frag) : Prop := PySem.W.nsIn K cStatics "sys.int_max_str_digits" = some none
theorem inv_nd {X : Cx} {pins : List (Addr × Obj)} {σ : L2.St} {H : Hp} {s : Shared} (I : Inv X pins σ H s) (z : NoDig X.K) : s.heap.NoDigits := by
  obtain ⟨mc, a, _⟩ := I.nolimit
  exact ⟨mc, a, nsIn_none I.kIn a z⟩
theorem wp_textB {M : Model} {A : Around} {E : Value → Shared → Prop} {s : Shared} {Q : Value → Shared → Prop} {v : Value} {text : List Nat} {n : Int}
    (hs : ¬ (text.takeWhile (· != 0)).length ≤ 640) (hr : (int_private% "readNumeral") 4300 10 (text.takeWhile (· != 0)) = (int_private% "Numeral.value") n)
    (ha : ((text.takeWhile (· != 0)).length == text.length) = true) (nd : s.heap.NoDigits) (h : Q (.int n s.toks) { s with toks := s.toks + 1 }) :
    wpAny M A ((int_private% "intFromText") v text 10) Q E s := by
  obtain ⟨mc, hns, hnone⟩ := nd
  have hlim : ∀ {Q : Nat → Shared → Prop}, Q 4300 s → wpAny M A Builtin.intMaxStrDigits Q E s := fun q => by
    unfold Builtin.intMaxStrDigits
    refine wpAny_bind (wpAny_nsGet hns ?_)
    rw [hnone]
    exact wpAny_pure q
  clear hns hnone
  obtain ⟨hp, g, d, tk, os⟩ := s
  repeat (any_goals (first
    | assumption
    | (with_reducible refine wpAny_ite_false (decide_eq_false hs) ?_)
    | (with_reducible refine wpAny_ite_true (decide_eq_true ha) ?_)
    | (with_reducible refine hlim ?_)
    | wp_step))
  all_goals (try rw [hr])
  all_goals (try dsimp only)
  repeat (any_goals (first
    | assumption
    | (with_reducible refine wpAny_ite_false (decide_eq_false hs) ?_)
    | (with_reducible refine wpAny_ite_true (decide_eq_true ha) ?_)
    | wp_step))
structure HidI (p : Prop) : Prop where
  out : p
theorem int_big {x : PySem.Str} {u : Tok} {n : Int} (hl : x.length ≤ sizeLine) (hb : ¬ (numSeenOf x).length ≤ 640) (hn : PySem.intText? x = some n) {M : Model} {A : Around} {E : Value → Shared → Prop} {s : Shared} {Q : Value → Shared → Prop}
    (nd : s.heap.NoDigits) (h : Q (.int n s.toks) { s with toks := s.toks + 1 }) : wpAny M A (Builtin.«int.__new__» ⟨[.type "int", .str x u], []⟩) (fun fin s' => ∃ v, fin = .done (.ret v) ∧ Q v s') E s := by
  obtain ⟨hp, g, d, tk, os⟩ := s
  have f1 := F.conv_sub_int
  have f2 := F.madeHere_int
  have f3 := PySem.W.KIN.str_int
  have f4 := PySem.W.KIN.str_idx
  have f5 := PySem.W.KIN.str_trunc
  have f6 : typeOf (.str x u) = pure (.type "str") := rfl
  have hr : (int_private% "readNumeral") 4300 10 (numSeenOf x) = (int_private% "Numeral.value") n ∧ ((numSeenOf x).length == (numTextOf x).length) = true := by
    rcases read4300 x hl with ⟨m, h1, h2, h3⟩ | ⟨h1, _⟩
    · rw [hn] at h1
      injection h1 with h1
      subst h1
      exact ⟨h3, h2⟩
    · rw [hn] at h1
      cases h1
  have hk := HidI.mk (And.intro hb (And.intro hr nd))
  clear hr hl hn hb nd
  repeat (any_goals (first
    | assumption
    | ((with_reducible show wpAny _ _ ((int_private% "intFromText") _ _ _) _ _ _); refine wp_textB hk.out.1 hk.out.2.1.1 hk.out.2.1.2 hk.out.2.2 ?_)
    | wp_step))
  all_goals first | exact ⟨_, rfl, h⟩ | skip
theorem int_few {x : PySem.Str} {u : Tok} {n : Int} (hb : (numSeenOf x).length ≤ 640) (hn : PySem.intText? x = some n) {M : Model} {A : Around} {E : Value → Shared → Prop} {s : Shared} {Q : Value → Shared → Prop}
    (h : Q (.int n s.toks) { s with toks := s.toks + 1 }) : wpAny M A (Builtin.«int.__new__» ⟨[.type "int", .str x u], []⟩) (fun fin s' => ∃ v, fin = .done (.ret v) ∧ Q v s') E s := by
  obtain ⟨hp, g, d, tk, os⟩ := s
  have f1 := F.conv_sub_int
  have f2 := F.madeHere_int
  have f3 := PySem.W.KIN.str_int
  have f4 := PySem.W.KIN.str_idx
  have f5 := PySem.W.KIN.str_trunc
  have f6 : typeOf (.str x u) = pure (.type "str") := rfl
  have hr : (int_private% "readNumeral") 0 10 (numSeenOf x) = (int_private% "Numeral.value") n ∧ ((numSeenOf x).length == (numTextOf x).length) = true := by
    rcases read0 x hb with ⟨m, h1, h2, h3⟩ | ⟨h1, _⟩
    · rw [hn] at h1
      injection h1 with h1
      subst h1
      exact ⟨h3, h2⟩
    · rw [hn] at h1
      cases h1
  have hk := HidI.mk (And.intro hb hr)
  clear hr hn hb
  repeat (any_goals (first
    | assumption
    | ((with_reducible show wpAny _ _ ((int_private% "intFromText") _ _ _) _ _ _); refine PySem.W.KIN.wp_text hk.out.1 hk.out.2.1 hk.out.2.2 ?_)
    | wp_step))
  all_goals first | exact ⟨_, rfl, h⟩ | skip
theorem call_textB {prog : Program} {w : World} {A : Around} {E : Value → Shared → Prop} {s : Shared} {x : PySem.Str} {t : Tok} {n : Int} {Q : Value → Shared → Prop} (hl : x.length ≤ sizeLine) (hn : PySem.intText? x = some n) (nd : s.heap.NoDigits)
    (h : Q (.int n s.toks) { s with toks := s.toks + 1 }) : wpAny (model prog w) A (call (.type "int") [.str x t]) Q E s := by
  by_cases hb : (numSeenOf x).length ≤ 640
  · exact call_int_1 (S := fun A R s => R (.ok (.ret (.int n s.toks))) { s with toks := s.toks + 1 }) (fun prog w A R s hq => wpAny_mono (int_few (Q := fun v s' => R (.ok (.ret v)) s') hb hn hq) (fun fin s' h' => by obtain ⟨v, rfl, hv⟩ := h'; exact hv) fun _ _ x => x) ⟨typeIs_int _ _ _, h⟩
  · exact call_int_1 (S := fun A R s => s.heap.NoDigits ∧ R (.ok (.ret (.int n s.toks))) { s with toks := s.toks + 1 }) (fun prog w A R s hq => wpAny_mono (int_big (Q := fun v s' => R (.ok (.ret v)) s') hl hb hn hq.1 hq.2) (fun fin s' h' => by obtain ⟨v, rfl, hv⟩ := h'; exact hv) fun _ _ x => x) ⟨nd, typeIs_int _ _ _, h⟩
def gStrI : List V → Hp → VK → Prop := fun xs H Q => ∃ i : Int, xs = [.int i] ∧ i.natAbs < 10 ^ 4300 ∧ Q (.str (toString i)) H
theorem w_strInt {i : Int} {H : Hp} {Q : VK} (h : i.natAbs < 10 ^ 4300) (k : Q (.str (toString i)) H) : gStrI [.int i] H Q := ⟨i, rfl, h, k⟩
def gIntT : List V → Hp → VK → Prop := fun xs H Q => ∃ a n, xs = [.str a] ∧ PySem.intText? a = some n ∧ a.length ≤ sizeLine ∧ Q (.int n) H
theorem w_intText {a : Str} {n : Int} {H : Hp} {Q : VK} (h : PySem.intText? a = some n) (hl : a.length ≤ sizeLine) (k : Q (.int n) H) : gIntT [.str a] H Q := ⟨a, n, rfl, h, hl, k⟩
section
variable {X : Cx}
theorem call_intText (z : NoDig X.K) : CallR X (.type "int") gIntT := by
  intro pins s σ H xs us Q I rs h
  obtain ⟨a, n, rfl, hn, hl, h⟩ := h
  cases rs with
  | cons r1 rs =>
    cases rs
    obtain ⟨t, rfl⟩ := r1
    exact call_textB hl hn (inv_nd I z) ⟨.int n, H, I.tok _, ⟨_, rfl⟩, h⟩
theorem call_strInt (z : NoDig X.K) (hc : X.calm = true) : CallR X (.type "str") gStrI := by
  intro pins s σ H xs us Q I r h
  obtain ⟨i, rfl, hz, q⟩ := h
  obtain ⟨u, rfl, t, rfl⟩ := vals1 r
  exact str_of_int_or (I.ok.hd hc) (inv_nd I z) (fun _ => ⟨.str _, H, I.tok _, ⟨_, rfl⟩, q⟩) (fun hge => absurd hz (Nat.not_lt.mpr hge))
end

/-! int(text, 2) of noughts and ones -/
def Bit2 (c : Nat) : Prop := c = 48 ∨ c = 49
def num2 (l : List Nat) : Nat := l.foldl (fun a c => a * 2 + (c - 48)) 0
theorem b2_hex {c : Nat} (h : Bit2 c) : L2.Hx.IsHex c := .inl (by rcases h with rfl | rfl <;> decide)
theorem b2_step {ds : Array Nat} {b : Bool} {c : Nat} (h : Bit2 c) : PySem.NumText.step 2 (ds, b) c = some (ds.push (c - 48), true) := by
  rcases h with rfl | rfl <;> rfl
theorem b2_fold : ∀ (l : List Nat) (ds : Array Nat), (∀ c ∈ l, Bit2 c) → l.foldlM (PySem.NumText.step 2) (ds, true) = some (l.foldl (fun a c => a.push (c - 48)) ds, true)
  | [], _, _ => rfl
  | c :: l, ds, h => by
    rw [List.foldlM_cons, b2_step (h c List.mem_cons_self)]
    exact b2_fold l (ds.push (c - 48)) fun x hx => h x (List.mem_cons_of_mem _ hx)
theorem b2_digits {l : List Nat} (h : ∀ c ∈ l, Bit2 c) (ne : l ≠ []) : digits? 2 l = some (l.foldl (fun a c => a.push (c - 48)) #[]) := by
  cases l with
  | nil => exact (ne rfl).elim
  | cons c l =>
    unfold digits?
    rw [List.foldlM_cons, b2_step (h c List.mem_cons_self)]
    show ((l.foldlM (PySem.NumText.step 2) (Array.push #[] (c - 48), true)).bind _) = _
    rw [b2_fold l _ fun x hx => h x (List.mem_cons_of_mem _ hx)]
    rfl
theorem b2_push : ∀ (l : List Nat) (ds : Array Nat), (l.foldl (fun a c => a.push (c - 48)) ds).foldl (fun a d => a * 2 + d) 0 = l.foldl (fun a c => a * 2 + (c - 48)) (ds.foldl (fun a d => a * 2 + d) 0)
  | [], _ => rfl
  | c :: l, ds => by
    rw [List.foldl_cons, List.foldl_cons, b2_push l (ds.push (c - 48)), Array.foldl_push]
theorem b2_based {l : List Nat} (h : ∀ c ∈ l, Bit2 c) : based 2 l = (2, false, l) := by
  match l, h with
  | [], _ => rfl
  | [a], h => rcases h a List.mem_cons_self with rfl | rfl <;> rfl
  | a :: c :: r, h =>
    have h2 := h c (List.mem_cons_of_mem _ List.mem_cons_self)
    rcases h a List.mem_cons_self with rfl | rfl <;> rcases h2 with rfl | rfl <;> rfl
theorem b2_read (m : Nat) {l : List Nat} (h : ∀ c ∈ l, Bit2 c) (ne : l ≠ []) : (int_private% "readNumeral") m 2 l = (int_private% "Numeral.value") ((num2 l : Nat) : Int) := by
  have hx : ∀ c ∈ l, L2.Hx.IsHex c := fun c hc => b2_hex (h c hc)
  have hb := b2_based h
  refine Eq.trans (readNumeral_eq m 2 l) ?_
  rw [L2.Hx.dropB hx, L2.Hx.signH hx]
  show judge m false (based 2 l).1 (based 2 l).2.1 (digits? (based 2 l).1 ((List.dropWhile blank (based 2 l).2.2.reverse).reverse)) = _
  rw [hb]
  show judge m false 2 false (digits? 2 ((List.dropWhile blank l.reverse).reverse)) = _
  rw [L2.Hx.dropB (cs := l.reverse) fun c hc => hx c (List.mem_reverse.mp hc), List.reverse_reverse, b2_digits h ne]
  have e : ∀ ds : Array Nat, judge m false 2 false (some ds) = (int_private% "Numeral.value") ((ds.foldl (fun a d => a * 2 + d) 0 : Nat) : Int) := fun ds => by
    unfold judge
    rfl
  rw [e, b2_push]
  rfl
theorem wp_text2 {M : Model} {A : Around} {E : Value → Shared → Prop} {s : Shared} {Q : Value → Shared → Prop} {v : Value} {text : List Nat} {n : Int}
    (hr : ∀ m : Nat, (int_private% "readNumeral") m 2 (text.takeWhile (· != 0)) = (int_private% "Numeral.value") n)
    (ha : ((text.takeWhile (· != 0)).length == text.length) = true) (nd : s.heap.NoDigits) (h : Q (.int n s.toks) { s with toks := s.toks + 1 }) :
    wpAny M A ((int_private% "intFromText") v text 2) Q E s := by
  obtain ⟨mc, hns, hnone⟩ := nd
  have hlim : ∀ {Q : Nat → Shared → Prop}, Q 4300 s → wpAny M A Builtin.intMaxStrDigits Q E s := fun q => by
    unfold Builtin.intMaxStrDigits
    refine wpAny_bind (wpAny_nsGet hns ?_)
    rw [hnone]
    exact wpAny_pure q
  clear hns hnone
  obtain ⟨hp, g, d, tk, os⟩ := s
  by_cases hs : (text.takeWhile (· != 0)).length ≤ 640
  · repeat (any_goals (first
      | assumption
      | (with_reducible refine wpAny_ite_true (decide_eq_true hs) ?_)
      | (with_reducible refine wpAny_ite_true (decide_eq_true ha) ?_)
      | wp_step))
    all_goals (try rw [hr])
    all_goals (try dsimp only)
    repeat (any_goals (first
      | assumption
      | (with_reducible refine wpAny_ite_true (decide_eq_true ha) ?_)
      | wp_step))
  · repeat (any_goals (first
      | assumption
      | (with_reducible refine wpAny_ite_false (decide_eq_false hs) ?_)
      | (with_reducible refine wpAny_ite_true (decide_eq_true ha) ?_)
      | (with_reducible refine hlim ?_)
      | wp_step))
    all_goals (try rw [hr])
    all_goals (try dsimp only)
    repeat (any_goals (first
      | assumption
      | (with_reducible refine wpAny_ite_true (decide_eq_true ha) ?_)
      | wp_step))
theorem int_two {x : PySem.Str} {u t : Tok} (hx : ∀ c ∈ x.cps.toList, Bit2 c) (ne : x.cps.toList ≠ []) {M : Model} {A : Around} {E : Value → Shared → Prop} {s : Shared} {Q : Value → Shared → Prop}
    (nd : s.heap.NoDigits) (h : Q (.int ((num2 x.cps.toList : Nat) : Int) s.toks) { s with toks := s.toks + 1 }) : wpAny M A (Builtin.«int.__new__» ⟨[.type "int", .str x u, .int 2 t], []⟩) (fun fin s' => ∃ v, fin = .done (.ret v) ∧ Q v s') E s := by
  obtain ⟨hp, g, d, tk, os⟩ := s
  have f1 := F.conv_sub_int
  have f2 := F.madeHere_int
  have f6 : typeOf (.str x u) = pure (.type "str") := rfl
  obtain ⟨e1, e2⟩ := L2.Hx.seen_hex (x := x) fun c hc => b2_hex (hx c hc)
  have hr : ∀ m : Nat, (int_private% "readNumeral") m 2 (numSeenOf x) = (int_private% "Numeral.value") ((num2 x.cps.toList : Nat) : Int) := fun m => by
    rw [e2]
    exact b2_read m hx ne
  have ha : ((numSeenOf x).length == (numTextOf x).length) = true := by
    rw [e1, e2]
    exact beq_self_eq_true _
  have hk := HidI.mk (And.intro hr (And.intro ha nd))
  clear hr ha e1 e2 ne hx nd
  repeat (any_goals (first
    | assumption
    | ((with_reducible show wpAny _ _ ((int_private% "intFromText") _ _ _) _ _ _); refine wp_text2 hk.out.1 hk.out.2.1 hk.out.2.2 ?_)
    | wp_step))
  all_goals first | exact ⟨_, rfl, h⟩ | skip
def gIntT2 : List V → Hp → VK → Prop := fun xs H Q => ∃ a, xs = [.str a, .int 2] ∧ a.cps.toList ≠ [] ∧ (∀ c ∈ a.cps.toList, Bit2 c) ∧ Q (.int ((num2 a.cps.toList : Nat) : Int)) H
theorem call_two {prog : Program} {w : World} {A : Around} {E : Value → Shared → Prop} {s : Shared} {x : PySem.Str} {u t : Tok} {Q : Value → Shared → Prop} (hx : ∀ c ∈ x.cps.toList, Bit2 c) (ne : x.cps.toList ≠ []) (nd : s.heap.NoDigits)
    (h : Q (.int ((num2 x.cps.toList : Nat) : Int) s.toks) { s with toks := s.toks + 1 }) : wpAny (model prog w) A (call (.type "int") [.str x u, .int 2 t]) Q E s :=
  callType_new (S := fun A R s => s.heap.NoDigits ∧ R (.ok (.ret (.int ((num2 x.cps.toList : Nat) : Int) s.toks))) { s with toks := s.toks + 1 }) F.called_int F.newNe_int (L2.Hx.typeCall_int_2 _ _) (L2.Hx.newCall_int_2 _ _)
    (fun obj => F.initArgs_range_2 obj _ _) F.entry_int_new (fun prog w A R s hq => wpAny_mono (int_two (Q := fun v s' => R (.ok (.ret v)) s') hx ne hq.1 hq.2) (fun fin s' h' => by obtain ⟨v, rfl, hv⟩ := h'; exact hv) fun _ _ x => x) ⟨nd, typeIs_int _ _ _, h⟩
section
variable {X : Cx}
theorem call_intText2 (z : NoDig X.K) : CallR X (.type "int") gIntT2 := by
  intro pins s σ H xs us Q I rs h
  obtain ⟨a, rfl, ne, hx, h⟩ := h
  obtain ⟨u1, u2, rfl, ⟨t1, rfl⟩, t2, rfl⟩ := vals2 rs
  exact call_two hx ne (inv_nd I z) ⟨.int _, H, I.tok _, ⟨_, rfl⟩, h⟩
end
theorem w_intText2 {a : Str} {H : Hp} {Q : VK} (ne : a.cps.toList ≠ []) (hx : ∀ c ∈ a.cps.toList, Bit2 c) (k : Q (.int ((num2 a.cps.toList : Nat) : Int)) H) : gIntT2 [.str a, .int 2] H Q := ⟨a, rfl, ne, hx, k⟩

/-! figures to a number -/
def hrn (b : Int) : List Int → Int
  | [] => 0
  | x :: l => hrn b l * b + x
theorem hrn_app (b : Int) (x : Int) : ∀ l : List Int, hrn b (l ++ [x]) = hrn b l + x * b ^ l.length
  | [] => by
    show 0 * b + x = 0 + x * b ^ 0
    rw [Int.zero_mul, Int.pow_zero, Int.mul_one]
  | y :: l => by
    show hrn b (l ++ [x]) * b + y = hrn b l * b + y + x * b ^ (l.length + 1)
    rw [hrn_app b x l, Int.add_mul, Int.mul_assoc, ← Int.pow_succ, Int.add_right_comm]
theorem hrn_bd {b : Int} (hb : b.natAbs < 2 ^ 41) : ∀ l : List Int, (∀ n ∈ l, n.natAbs < 2 ^ 2000) → (hrn b l).natAbs < 2 ^ (2000 + 42 * l.length)
  | [], _ => Nat.two_pow_pos _
  | x :: l, h => by
    have h1 := hrn_bd hb l (fun n hn => h n (List.mem_cons_of_mem _ hn))
    have h2 := h x List.mem_cons_self
    have h3 : (hrn b l * b + x).natAbs ≤ (hrn b l).natAbs * b.natAbs + x.natAbs := by
      have := Int.natAbs_add_le (hrn b l * b) x
      rw [Int.natAbs_mul] at this
      exact this
    have h4 : (hrn b l).natAbs * b.natAbs < 2 ^ (2000 + 42 * l.length) * 2 ^ 41 := Nat.mul_lt_mul'' h1 hb
    have h5 : 2 ^ 2000 ≤ 2 ^ (2000 + 42 * l.length) * 2 ^ 41 := by
      rw [← Nat.pow_add]
      exact Nat.pow_le_pow_right (by decide) (by omega)
    have h6 : 2 ^ (2000 + 42 * (x :: l).length) = 2 ^ (2000 + 42 * l.length) * 2 ^ 41 + 2 ^ (2000 + 42 * l.length) * 2 ^ 41 := by
      rw [← Nat.pow_add, show 2000 + 42 * (x :: l).length = (2000 + 42 * l.length + 41) + 1 by rw [List.length_cons]; omega, Nat.pow_succ, Nat.mul_two]
    show (hrn b l * b + x).natAbs < _
    rw [h6]
    generalize 2 ^ (2000 + 42 * l.length) * 2 ^ 41 = A at *
    generalize (2 : Nat) ^ 2000 = B at *
    omega
theorem bpow_bd {b : Int} (hb : b.natAbs < 2 ^ 41) (i : Nat) : (b ^ i).natAbs < 2 ^ (41 * i + 1) := by
  rw [Int.natAbs_pow, Nat.pow_succ, Nat.pow_mul]
  have h := Nat.pow_le_pow_left (Nat.le_of_lt hb) i
  have h2 : 0 < (2 ^ 41 : Nat) ^ i := Nat.pow_pos (by decide)
  omega
theorem hrn_drop {b : Int} {ns : List Int} {i : Nat} {m : Int} (hi : i < ns.length) (h : ns[ns.length - 1 - i]? = some m) : hrn b (ns.drop (ns.length - (i + 1))) = hrn b (ns.drop (ns.length - i)) * b + m := by
  obtain ⟨h1, h2⟩ := List.getElem?_eq_some_iff.mp h
  have e : ns.length - (i + 1) = ns.length - 1 - i := by omega
  rw [e, List.drop_eq_getElem_cons h1, h2, show ns.length - 1 - i + 1 = ns.length - i by omega]
  rfl
theorem hrn_take {b : Int} {ns : List Int} {i : Nat} {m : Int} (h : ns[i]? = some m) : hrn b (ns.take (i + 1)) = hrn b (ns.take i) + m * b ^ i := by
  obtain ⟨h1, h2⟩ := List.getElem?_eq_some_iff.mp h
  rw [List.take_succ, h]
  show hrn b (ns.take i ++ [m]) = _
  rw [hrn_app, List.length_take, Nat.min_eq_left (Nat.le_of_lt h1)]
theorem ints_at {ns : List Int} {i : Nat} {x : V} (h : (ns.map V.int)[i]? = some x) : ∃ m, ns[i]? = some m ∧ x = V.int m := by
  rw [List.getElem?_map] at h
  cases e : ns[i]? with
  | none => rw [e] at h; cases h
  | some m => rw [e] at h; cases h; exact ⟨m, rfl, rfl⟩
/-! a walk backwards -/
def RvE (K : PySem.W.Frag) (R : It → Hp → Prop) (v : V) (H1 : Hp) : Prop := ∃ (a : Addr) (xs : List V), v = .ref a ∧ ((SqL K H1 a xs ∧ R (Itv K a xs.length) H1) ∨ (SqT K H1 a xs ∧ R (_root_.RT.ItvT K a xs.length) H1))
theorem w_iRv {K : PySem.W.Frag} {σ : L2.St} {H : Hp} {te : TE} {R : It → Hp → Prop} (k : te σ H fun v H1 => RvE K R v H1) : _root_.RT.iRevA K te σ H R := k
theorem walk_revT {K : PySem.W.Frag} {a : Addr} {xs : List V} : Walk (_root_.RT.ItvT K a xs.length) xs.length (fun H => SqT K H a xs) (fun i H x H' => H' = H ∧ xs[xs.length - 1 - i]? = some x) :=
  ⟨fun i H hi h => ⟨hi, xs, _, h, List.getElem?_eq_getElem (by omega)⟩, fun H h => Nat.le_refl _, fun i H x H' hi h y => ⟨y.1, y.2 xs h⟩⟩
theorem loopVL {σ : L2.St} {H : Hp} {D : Ends} {K : PySem.W.Frag} {g : TG} {tb : TS} {a : Addr} {xs : List V} (Pv : Nat → L2.St → Hp → Prop) (h0 : Pv 0 σ H) (hl : ∀ i σ H, i ≤ xs.length → Pv i σ H → SqL K H a xs)
    (hs : ∀ i x σ H, i < xs.length → xs[xs.length - 1 - i]? = some x → Pv i σ H → g x σ H fun σ2 H2 => tb (En (Pv (i + 1)) (RT D) (NX D) (Pv (i + 1))) σ2 H2) (hd : ∀ σ H, Pv xs.length σ H → NX D σ H) : Loop (Itv K a xs.length) g tb D σ H :=
  for_it walk_rev Pv h0 hl (fun i x σ H H' hi p y => by obtain ⟨rfl, e⟩ := y; exact hs i x σ _ hi e p) hd
theorem loopVT {σ : L2.St} {H : Hp} {D : Ends} {K : PySem.W.Frag} {g : TG} {tb : TS} {a : Addr} {xs : List V} (Pv : Nat → L2.St → Hp → Prop) (h0 : Pv 0 σ H) (hl : ∀ i σ H, i ≤ xs.length → Pv i σ H → SqT K H a xs)
    (hs : ∀ i x σ H, i < xs.length → xs[xs.length - 1 - i]? = some x → Pv i σ H → g x σ H fun σ2 H2 => tb (En (Pv (i + 1)) (RT D) (NX D) (Pv (i + 1))) σ2 H2) (hd : ∀ σ H, Pv xs.length σ H → NX D σ H) : Loop (_root_.RT.ItvT K a xs.length) g tb D σ H :=
  for_it walk_revT Pv h0 hl (fun i x σ H H' hi p y => by obtain ⟨rfl, e⟩ := y; exact hs i x σ _ hi e p) hd
theorem w_rep1 {H : Hp} {Q : VK} {l : Addr} {m j : Int} (h : H l = some (.lst [.int m])) (h0 : 0 ≤ j) (h1 : j ≤ 1000) (k : ∀ p H', H p = none → Sm H H' → H' p = some (.lst ((List.replicate j.toNat m).map V.int)) → Q (.ref p) H') : gMul (.ref l) (.int j) H Q := by
  refine .inr (.inr ⟨l, j, _, rfl, rfl, h, by omega, by omega, sz_of ?_, fun p hp => k p _ hp (sm_new hp) ?_⟩)
  · show 1 * j.toNat ≤ _
    omega
  · rw [upd_same, List.map_replicate, List.flatten_replicate_singleton]
theorem w_addInts {K : PySem.W.Frag} {H : Hp} {Q : VK} {l m : Addr} {ns ms : List Int} (h1 : H l = some (.lst (ns.map V.int))) (h2 : H m = some (.lst (ms.map V.int))) (z : ns.length + ms.length ≤ 1000) (k : ∀ p H', H p = none → Sm H H' → H' p = some (.lst ((ns ++ ms).map V.int)) → Q (.ref p) H') :
    gAdd K (.ref l) (.ref m) H Q := w_addL h1 h2 (sz_of (by rw [List.length_map, List.length_map]; omega)) fun p H' a b c => k p H' a b (by rw [List.map_append]; exact c)
theorem w_ix4P {K : PySem.W.Frag} {H : Hp} {Q : VK} {i : Int} {p : Addr} {x0 x1 x2 x3 : Int} (h : SqL K H p [.int x0, .int x1, .int x2, .int x3]) (h0 : 1 ≤ i) (h1 : i < 4) (k : ∀ z : Int, z = x1 ∨ z = x2 ∨ z = x3 → Q (.int z) H) : rIx K (.ref p) (.int i) H Q := by
  rcases (show i = 1 ∨ i = 2 ∨ i = 3 by omega) with rfl | rfl | rfl
  · exact w_ixL' h (atI_nat (j := 1) rfl) (k _ (by omega))
  · exact w_ixL' h (atI_nat (j := 2) rfl) (k _ (by omega))
  · exact w_ixL' h (atI_nat (j := 3) rfl) (k _ (by omega))
theorem w_gLstL {K : PySem.W.Frag} {H : Hp} {Q : VK} {p : Addr} {ys : List V} (h : SqL K H p ys) (k : ∀ l H', H l = none → Sm H H' → H' l = some (.lst ys) → Q (.ref l) H') : gLst K [.ref p] H Q := ⟨p, ys, rfl, .inl h, fun l hl => k l _ hl (sm_new hl) upd_same⟩
theorem w_gTplL {K : PySem.W.Frag} {H : Hp} {Q : VK} {p : Addr} {ys : List V} (h : SqL K H p ys) (k : ∀ l H', H l = none → Sm H H' → H' l = some (.tup ys) → Q (.ref l) H') : gTpl K [.ref p] H Q := ⟨p, ys, rfl, .inl ⟨h, fun l hl => k l _ hl (sm_new hl) upd_same⟩⟩
theorem dp_ints {K : PySem.W.Frag} {H : Hp} : ∀ ns : List Int, DpAll K H (ns.map V.int) (ns.map PyData.int)
  | [] => .nil
  | n :: ns => .cons (.int n) (dp_ints ns)
theorem w_neInts {K : PySem.W.Frag} {H : Hp} {Q : VK} {a b : Addr} {ns : List Int} (h1 : SqL K H a (ns.map V.int)) (h2 : SqL K H b (ns.map V.int)) (k : Q (.bl false) H) : gNe K (.ref a) (.ref b) H Q := by
  refine .inr ⟨.list (ns.map .int), .list (ns.map .int), .lst h1 (dp_ints ns), .lst h2 (dp_ints ns), PySem.W.ke_shaped_ints ns, PySem.W.ke_shaped_ints ns, ?_⟩
  have e : PyData.eqv (.list (ns.map .int)) (.list (ns.map .int)) = true := by
    rw [PyData.eqv, PySem.W.ked_eqvAll]
    exact decide_eq_true rfl
  rw [e]
  exact k
local macro_rules | `(tactic| tm_at "rs") => `(tactic| first | ((with_reducible refine' w_gLstL ?h (fun _ _ _ _ _ => ?k)); (case h => tm_at "rsq")) | fail "no")
local macro_rules | `(tactic| tm_at "rs") => `(tactic| first | ((with_reducible refine' w_gTplL ?h (fun _ _ _ _ _ => ?k)); (case h => tm_at "rsq")) | fail "no")
local macro_rules | `(tactic| tm_at "rs") => `(tactic| first | ((with_reducible refine' w_neInts ?h ?i ?k); (case h => tm_at "rsq"); (case i => tm_at "rsq")) | fail "no")
local macro_rules | `(tactic| tm_at "rs") => `(tactic| first | ((with_reducible refine' w_rep1 ?h ?i ?j (fun _ _ _ _ _ => ?k)); (case h => tm_at "rlk"); (case i => omega); (case j => omega)) | fail "no")
local macro_rules | `(tactic| tm_at "rs") => `(tactic| first | ((with_reducible refine' w_addInts ?h ?i ?z (fun _ _ _ _ _ => ?k)); (case h => tm_at "rlk"); (case i => tm_at "rlk"); (case z => (simp only [List.length_append, List.length_replicate]; omega))) | fail "no")
local macro_rules | `(tactic| tm_at "rs") => `(tactic| first | ((with_reducible refine' w_ix4P ?h ?a ?b (fun _ _ => ?k)); (case h => tm_at "rsq"); (case a => omega); (case b => omega)) | fail "no")
local macro_rules | `(tactic| tm_at "rs") => `(tactic| with_reducible refine w_iRv ?_)

/-! bits of ints that are not negative -/
theorem and_nn {a b : Nat} : Builtin.bitAnd (a : Int) (b : Int) = ((a &&& b : Nat) : Int) := by
  have h := bitAnd_pp (Int.natCast_nonneg a) (Int.natCast_nonneg b)
  rw [Int.toNat_natCast, Int.toNat_natCast] at h
  exact h
theorem and_one {i : Int} (h : 0 ≤ i) : Builtin.bitAnd i 1 = i % 2 := by
  obtain ⟨n, rfl⟩ := Int.eq_ofNat_of_zero_le h
  have e := @and_nn n 1
  rw [show ((1 : Nat) : Int) = 1 from rfl] at e
  rw [e, Nat.and_one_is_mod]
  omega

/-! a number's bits as a text -/
def bl : Nat → List Nat
  | 0 => []
  | n + 1 => bl ((n + 1) / 2) ++ [48 + (n + 1) % 2]
termination_by n => n
decreasing_by omega
theorem bl_eq {n : Nat} (h : 0 < n) : bl n = bl (n / 2) ++ [48 + n % 2] := by
  cases n with
  | zero => omega
  | succ n => rw [bl]
theorem bl_zero : bl 0 = [] := by rw [bl]
theorem bl_len : ∀ (e n : Nat), n < 2 ^ e → (bl n).length ≤ e
  | 0, n, h => by
    rw [Nat.pow_zero] at h
    rw [show n = 0 by omega, bl_zero]
    exact Nat.le_refl _
  | e + 1, n, h => by
    rw [Nat.pow_succ] at h
    by_cases h0 : 0 < n
    · rw [bl_eq h0, List.length_append]
      have := bl_len e (n / 2) (by omega)
      show _ + 1 ≤ e + 1
      omega
    · rw [show n = 0 by omega, bl_zero]
      exact Nat.zero_le _
theorem bl_bit (n : Nat) : ∀ c ∈ bl n, Bit2 c := by
  induction n using Nat.strongRecOn with
  | ind n ih =>
    intro c hc
    by_cases h0 : 0 < n
    · rw [bl_eq h0] at hc
      rcases List.mem_append.mp hc with hc | hc
      · exact ih (n / 2) (by omega) c hc
      · rw [List.mem_singleton.mp hc]
        unfold Bit2
        omega
    · rw [show n = 0 by omega, bl_zero] at hc
      cases hc
theorem num2_snoc (l : List Nat) (c : Nat) : num2 (l ++ [c]) = num2 l * 2 + (c - 48) := by
  unfold num2
  rw [List.foldl_append]
  rfl
theorem num2_bl (n : Nat) : num2 (bl n) = n := by
  induction n using Nat.strongRecOn with
  | ind n ih =>
    by_cases h0 : 0 < n
    · rw [bl_eq h0, num2_snoc, ih (n / 2) (by omega)]
      omega
    · rw [show n = 0 by omega, bl_zero]
      rfl
def btl (n : Nat) : List Nat := if n = 0 then [48] else bl n
theorem btl_zero : btl 0 = [48] := if_pos rfl
theorem btl_pos {n : Nat} (h : 0 < n) : btl n = bl n := if_neg (by omega)
theorem bl_ne {n : Nat} (h : 0 < n) : bl n ≠ [] := by
  rw [bl_eq h]
  intro e
  have := congrArg List.length e
  rw [List.length_append] at this
  simp at this
theorem btl_ne (n : Nat) : btl n ≠ [] := by
  by_cases h : 0 < n
  · rw [btl_pos h]; exact bl_ne h
  · rw [show n = 0 by omega, btl_zero]; intro e; cases e
theorem btl_bit (n : Nat) : ∀ c ∈ btl n, Bit2 c := by
  by_cases h : 0 < n
  · rw [btl_pos h]; exact bl_bit n
  · rw [show n = 0 by omega, btl_zero]
    intro c hc
    exact .inl (List.mem_singleton.mp hc)
theorem btl_len {e n : Nat} (h : n < 2 ^ e) (he : 1 ≤ e) : (btl n).length ≤ e := by
  by_cases h0 : 0 < n
  · rw [btl_pos h0]; exact bl_len e n h
  · rw [show n = 0 by omega, btl_zero]; exact he
theorem num2_zeros (l : List Nat) : ∀ k : Nat, num2 (List.replicate k 48 ++ l) = num2 l
  | 0 => rfl
  | k + 1 => num2_zeros l k
theorem num2_btl (n : Nat) : num2 (btl n) = n := by
  by_cases h : 0 < n
  · rw [btl_pos h]; exact num2_bl n
  · rw [show n = 0 by omega, btl_zero]; rfl
theorem str_ext {a b : Str} (h : a.cps.toList = b.cps.toList) : a = b := by
  cases a
  cases b
  congr 1
  exact Array.toList_inj.mp h
def sg (c : Nat) : Str := ⟨#[c]⟩
theorem app_tl (a b : Str) : (a ++ b).cps.toList = a.cps.toList ++ b.cps.toList := Array.toList_append
theorem join_fold (e : Str) (he : e.cps = #[]) : ∀ (cs : List Nat) (a : Array Nat), ((cs.map sg).foldl (fun acc p => acc ++ e.cps ++ p.cps) a).toList = a.toList ++ cs
  | [], a => by simp
  | c :: cs, a => by
    rw [List.map_cons, List.foldl_cons, join_fold e he cs, he]
    simp [sg]
theorem join_sg (cs : List Nat) : (Txt.join (Str.ofString "") (cs.map sg)).cps.toList = cs := by
  cases cs with
  | nil => rfl
  | cons c cs => exact join_fold (Str.ofString "") rfl cs #[c]
theorem tos_bit {i : Int} (h : i = 0 ∨ i = 1) : ((toString i : String) : Str) = sg (48 + i.toNat) := by
  rcases h with rfl | rfl <;> rfl
/-! lists of texts -/
theorem dp_strs {K : PySem.W.Frag} {H : Hp} : ∀ ys : List Str, DpAll K H (ys.map V.str) (ys.map PyData.str)
  | [] => .nil
  | y :: ys => .cons (.str y) (dp_strs ys)
theorem lay_strs : ∀ ys : List Str, (∀ y ∈ ys, PyData.strOk y = true) → PyData.canLayAll0 (ys.map PyData.str) = true ∧ PyData.depthAll (ys.map PyData.str) = 0
  | [], _ => ⟨rfl, rfl⟩
  | y :: ys, h => by
    obtain ⟨h1, h2⟩ := lay_strs ys (fun z hz => h z (List.mem_cons_of_mem _ hz))
    have h3 := h y List.mem_cons_self
    exact ⟨by simp [PyData.canLayAll0, PyData.canLay0, h1, h3], by simp [PyData.depthAll, PyData.depth, h2]⟩
theorem shp_strs {ys : List Str} (h : ∀ y ∈ ys, PyData.strOk y = true) : SeqAt.shaped (.list (ys.map PyData.str)) = true := by
  obtain ⟨h1, h2⟩ := lay_strs ys h
  simp [SeqAt.shaped, PyData.canLay0, PyData.depth, h1, h2]
theorem sg_ok {cs : List Nat} (h : ∀ c ∈ cs, c < 1000) : ∀ y ∈ cs.map sg, PyData.strOk y = true := fun y hy => by
  obtain ⟨c, hc, rfl⟩ := List.mem_map.mp hy
  have := h c hc
  unfold PyData.strOk sg
  simp
  omega
theorem w_eqNilT {K : PySem.W.Frag} {H : Hp} {Q : VK} {a b : Addr} {ys : List Str} (h1 : SqL K H a (ys.map V.str)) (h2 : SqL K H b []) (ok : ∀ y ∈ ys, PyData.strOk y = true) (k : Q (.bl (decide (ys = []))) H) : gEq K (.ref a) (.ref b) H Q := by
  refine .inr ⟨.list (ys.map .str), .list (([] : List Str).map .str), .lst h1 (dp_strs _), .lst h2 .nil, shp_strs ok, shp_strs (fun y hy => by cases hy), ?_⟩
  have e : PyData.eqv (.list (ys.map .str)) (.list (([] : List Str).map .str)) = decide (ys = []) := by
    rw [PyData.eqv]
    cases ys <;> rfl
  rw [e]
  exact k
def RevE (K : PySem.W.Frag) (Q : VK) (x : V) (H1 : Hp) : Prop := ∃ a xs, x = .ref a ∧ SqL K H1 a xs ∧ ∀ p, H1 p = none → Q (.ref p) (upd H1 p (.lst xs.reverse))
theorem w_revL {K : PySem.W.Frag} {σ : L2.St} {H : Hp} {Q : VK} {te : TE} (k : te σ H fun x H1 => RevE K Q x H1) : tRevL K te σ H Q := k
theorem w_revE {K : PySem.W.Frag} {H : Hp} {Q : VK} {a : Addr} {xs : List V} (h : SqL K H a xs) (k : ∀ p H', H p = none → Sm H H' → H' p = some (.lst xs.reverse) → Q (.ref p) H') : RevE K Q (.ref a) H := ⟨a, xs, rfl, h, fun p hp => k p _ hp (sm_new hp) upd_same⟩
/-! x or y, x a text -/
def OrS (K : PySem.W.Frag) (tb : TE) (σ : L2.St) (Q : VK) (x : V) (H1 : Hp) : Prop := ∃ k, TruV K x H1 k ∧ if k = true then Q x H1 else tb σ H1 Q
theorem w_orT {K : PySem.W.Frag} {ta tb : TE} {σ : L2.St} {H : Hp} {Q : VK} (k : ta σ H fun x H1 => OrS K tb σ Q x H1) : tOrT K ta tb σ H Q := k
theorem w_orS {K : PySem.W.Frag} {tb : TE} {σ : L2.St} {H : Hp} {Q : VK} {z : Str} (zl : z.length ≤ sizeLine) (k1 : z.cps.toList ≠ [] → Q (.str z) H) (k2 : z.cps.toList = [] → tb σ H Q) : OrS K tb σ Q (.str z) H := by
  refine ⟨_, ⟨zl, rfl⟩, ?_⟩
  have e : z.length = z.cps.toList.length := (tl_len z).symm
  cases h : z.cps.toList with
  | nil =>
    rw [h] at e
    rw [e]
    exact k2 h
  | cons c l =>
    rw [h] at e
    rw [e, if_pos (by rw [bne_iff_ne, List.length_cons]; omega)]
    exact k1 (by rw [h]; intro z; cases z)
def gStrB : List V → Hp → VK → Prop := fun xs H Q => ∃ i : Int, xs = [.int i] ∧ i.natAbs.log2 < 1920 ∧ Q (.str (toString i)) H
theorem call_gStrB {X : Cx} : CallR X (.type "str") gStrB := call_str_int
theorem w_strB {i : Int} {H : Hp} {Q : VK} (h : i = 0 ∨ i = 1) (k : Q (.str (sg (48 + i.toNat))) H) : gStrB [.int i] H Q := by
  refine ⟨i, rfl, ?_, ?_⟩
  · rcases h with rfl | rfl <;> decide
  · rw [tos_bit h]; exact k
/-! a nought, so often -/
theorem zeros_ok {m : Int} (h0 : 0 ≤ m) (h1 : m ≤ 10000) : MulOk (Str.ofString "0") m := by
  have e : (Str.ofString "0").length = 1 := rfl
  refine ⟨?_, fun h _ => ?_, fun _ _ => ?_⟩
  · rw [Bool.or_eq_false_iff, decide_eq_false_iff_not, decide_eq_false_iff_not]
    exact ⟨by omega, by omega⟩
  · rw [e]
    have : (1 : Int) ≤ (2 ^ 63 - 1) / m := by
      rw [Int.le_ediv_iff_mul_le (by omega)]
      omega
    omega
  · rw [e]
    show decide (1 * m.toNat > sizeLine) = false
    rw [decide_eq_false_iff_not]
    have : m.toNat ≤ sizeLine := sz_of (by omega)
    omega
theorem rep_fold (c : Nat) : ∀ (n : Nat) (a : Array Nat), ((List.replicate n (#[c] : Array Nat)).foldl (· ++ ·) a).toList = a.toList ++ List.replicate n c
  | 0, a => by simp
  | n + 1, a => by
    rw [List.replicate_succ, List.foldl_cons, rep_fold c n, Array.toList_append, List.append_assoc]
    rfl
theorem zeros_tl {m : Int} (h0 : 0 ≤ m) : (Txt.mul (Str.ofString "0") m).cps.toList = List.replicate m.toNat 48 := by
  unfold Txt.mul
  split
  · rw [show m = 0 by omega]; rfl
  · split
    · rename_i h
      rcases Bool.or_eq_true_iff.mp h with e | e
      · rw [beq_iff_eq.mp e]; rfl
      · cases e
    · exact rep_fold 48 m.toNat #[]
local macro_rules | `(tactic| tm_at "rs") => `(tactic| first | with_reducible refine w_revL ?_ | ((with_reducible refine' w_revE ?h (fun _ _ _ _ _ => ?k)); (case h => tm_at "rsq")) | with_reducible refine w_orT ?_ | fail "no")

/-! enumerate over a text -/
def ItSE (x : Str) : It :=
  ⟨fun i _ => i < x.cps.size, fun i H v H' => ∃ T c, v = .ref T ∧ H T = none ∧ H' = upd H T (.tup [.int (i : Nat), .str ⟨#[c]⟩]) ∧ x.cps[i]? = some c, fun i _ => x.cps.size = i⟩
theorem turn_SE {P : Program} {w : World} {K : PySem.W.Frag} {elts : List Expr} {kk : Nat} {tpos : Pos} (x : Str) (t : Tok) (e it : Addr) :
    Turn P w K (.Tuple elts kk tpos) (ItSE x) [e, it] e (fun i h => (∃ old, IsEnum h e it ((i : Nat) : Int) old) ∧ h.IsStrIter it (strIterType x) x t i ∧ e ≠ it) where
  mem := List.mem_cons_self
  obj := by
    rintro i h ⟨⟨old, he⟩, ⟨o, ho, hc, hd⟩, _⟩ b hb
    rcases (show b = e ∨ b = it by simpa using hb) with rfl | rfl
    · exact ⟨_, he, fun v q => nomatch q⟩
    · exact ⟨o, ho, fun v q => by rw [hd] at q; cases q⟩
  keep := by
    rintro i h h' ⟨⟨old, he⟩, ⟨o, ho, r⟩, ne⟩ k
    exact ⟨⟨old, k e (by simp) _ he⟩, ⟨o, k it (by simp) o ho, r⟩, ne⟩
  item := by
    intro X hP hw hK hc i pins s σ H E I hf st hg
    subst hP hw hK
    obtain ⟨⟨old, he⟩, hit, hne⟩ := st
    have hel : e < s.heap.objs.size := Heap.lt_size he
    have hil : it < s.heap.objs.size := by
      obtain ⟨_, q, _⟩ := hit
      exact Heap.lt_size q
    have hif : e ∉ [it] := by simpa using hne
    have D := Draws.text (prog := X.prog) (w := X.w) (A := X.A.in1) (I.ok.hd hc) it x t
    refine wpAny_pyNext_enum_itemD D he hit hg hne hif fun u h' tk hu ho hit' hT hsz hk => ?_
    obtain ⟨c, tc, hcx, rfl⟩ := hu
    refine ⟨_, rfl, wpAny_letOwnedTupleGo_enum (prog := X.prog) (w := X.w) (s := { s with heap := h', toks := tk + 1 }) ho fun h'' he' sb => ?_⟩
    have hT2 := (sb.2 _ (Nat.ne_of_gt hel)).trans hT
    have new : ObjOk X.prog X.w (upd H s.heap.objs.size (.tup [.int (i : Nat), .str ⟨#[c]⟩])) h'' s.heap.objs.size (.tup [.int (i : Nat), .str ⟨#[c]⟩]) :=
      ⟨by show 2 ≤ sizeLine; decide, [.int i tk, .str ⟨#[c]⟩ tc], .cons ⟨_, rfl⟩ (.cons ⟨_, rfl⟩ .nil), ⟨_, hT2, rfl, _, rfl⟩⟩
    have I1 := Inv.turnedNew (t' := tk + 1) I (ch := [e, it]) (fun b ob hb q => (sb.2 b (fun z => hb (by simp [z]))).trans (hk b ob (fun z => hb (by simp [z])) (fun z => hb (by simp [z])) q)) hf (Nat.le_refl _) new
    refine ⟨.ref s.heap.objs.size, _, I1, rfl, ⟨_, c, rfl, I.hok.fresh (Nat.le_refl _), rfl, hcx⟩, ⟨⟨.str ⟨#[c]⟩ tc, ?_⟩, ?_, hne⟩, fun b hb => ?_⟩
    · rw [show ((i + 1 : Nat) : Int) = (i : Int) + 1 from rfl]
      exact he'
    · obtain ⟨o, q, r⟩ := hit'
      exact ⟨o, (sb.2 it (Ne.symm hne)).trans q, r⟩
    · have hb' : b < s.heap.objs.size := by
        rcases (show b = e ∨ b = it by simpa using hb) with rfl | rfl
        · exact hel
        · exact hil
      rw [upd_ne (Nat.ne_of_lt hb')]
      exact (hf b hb).1
  done := by
    intro X hP hw hK hc i pins s σ H E I hf st hg
    subst hP hw hK
    obtain ⟨⟨old, he⟩, hit, hne⟩ := st
    have hg : x.cps.size = i := hg
    subst hg
    obtain ⟨f0, f1, f2, f3, f4, f5⟩ := hf it (by simp)
    have D := Draws.text (prog := X.prog) (w := X.w) (A := X.A.in1) (I.ok.hd hc) it x t
    exact wpAny_pyNext_enum_endD D he hit fun h' eb => ⟨rfl, I.turned (t' := s.toks) (fun b o hb q => eb b o hb q) f0 f1 f3 f4 f5⟩
  self := fun A i s Q E st h => by
    obtain ⟨⟨_, he⟩, _⟩ := st
    exact wpAny_pyIter_enum he h
def iSE (ta : TA) : TI := fun σ H R => ta σ H fun vs H1 => ∃ x, vs = [.str x] ∧ R (ItSE x) H1
theorem pi_SE {X : Cx} {e : Expr} {ta : TA} {p pos tpos : Pos} {elts : List Expr} {kk : Nat} (hg : Gl X "enumerate") (hm : X.mg "enumerate" = none) (ha : PA X [e] ta) (hs : starEach [e] X.env = [(false, eval e X.env)] := by rfl) :
    PI X (.Tuple elts kk tpos) (.Call (.Name "enumerate" p) [e] [] pos) (iSE ta) := by
  refine ⟨fun pins s σ H R I h => Call_ (ld_blt I hg hm boot_enumerate (PyProof.Rows.callWith_type1 (thn (ha.run pos pins s σ H _ I h) fun us s1 ⟨vs, H1, I1, r1, q1⟩ => ?_) hs rfl))⟩
  obtain ⟨x, rfl, q⟩ := q1
  obtain ⟨u, rfl, t, rfl⟩ := vals1 r1
  refine call_enumerate_str fun h' he hit hsz hk => wpAny_pyIter_enum he ?_
  have I2 : Inv X pins σ H1 { s1 with heap := h' } := Inv.kept (t' := s1.toks) I1 hk
  refine ⟨s1.heap.objs.size + 1, [s1.heap.objs.size + 1, s1.heap.objs.size], _, _, H1, rfl, I2, turn_SE x t (s1.heap.objs.size + 1) s1.heap.objs.size, ⟨⟨.none, he⟩, hit, Nat.succ_ne_self _⟩, fun b hb => ?_, q⟩
  have hle : s1.heap.objs.size ≤ b := by
    rcases (show b = s1.heap.objs.size + 1 ∨ b = s1.heap.objs.size by simpa using hb) with rfl | rfl
    · exact Nat.le_add_right _ _
    · exact Nat.le_refl _
  exact I1.fpOk hle (I1.hok.fresh hle)
theorem walk_SE {z : Str} : Walk (ItSE z) z.cps.size (fun _ => True) (fun i H v H' => ∃ T c, v = .ref T ∧ H T = none ∧ H' = upd H T (.tup [.int (i : Nat), .str ⟨#[c]⟩]) ∧ z.cps[i]? = some c) :=
  ⟨fun _ _ hi _ => hi, fun _ _ => rfl, fun _ _ _ _ _ _ y => y⟩
def SEe (R : It → Hp → Prop) (vs : List V) (H1 : Hp) : Prop := ∃ x, vs = [.str x] ∧ R (ItSE x) H1
theorem w_iSE {σ : L2.St} {H : Hp} {ta : TA} {R : It → Hp → Prop} (k : ta σ H fun vs H1 => SEe R vs H1) : iSE ta σ H R := k
theorem w_iSEe {H : Hp} {R : It → Hp → Prop} {x : Str} (k : R (ItSE x) H) : SEe R [.str x] H := ⟨x, rfl, k⟩
theorem loopSE {σ : L2.St} {H : Hp} {D : Ends} {g : TG} {tb : TS} {z : Str} (Pv : Nat → L2.St → Hp → Prop) (h0 : Pv 0 σ H)
    (hs : ∀ i c T σ H H', i < z.cps.size → z.cps.toList[i]? = some c → Pv i σ H → H T = none → Sm H H' → H' T = some (.tup [.int (i : Nat), .str ⟨#[c]⟩]) → g (.ref T) σ H' fun σ2 H2 => tb (En (Pv (i + 1)) (RT D) (NX D) (Pv (i + 1))) σ2 H2)
    (hd : ∀ σ H, Pv z.cps.size σ H → NX D σ H) : Loop (ItSE z) g tb D σ H :=
  for_it walk_SE Pv h0 (fun _ _ _ _ _ => trivial) (fun i x σ H H' hi p y => by
    obtain ⟨T, c, rfl, hT, rfl, hc⟩ := y
    exact hs i c T σ H _ hi (by rw [Array.getElem?_toList]; exact hc) p hT (sm_new hT) upd_same) hd
/-- what is never reached -/
theorem ps_never {X : Cx} {st : Stmt} : PS X st (fun _ _ _ => False) := ⟨fun _ _ _ _ _ _ h => h.elim⟩
local macro_rules | `(tactic| tm_at "rs") => `(tactic| first | with_reducible refine w_iSE ?_ | with_reducible refine w_iSEe ?_ | fail "no")

/-! nine, so often, as a text and as a number -/
theorem fold_rep (c : Nat) : ∀ (n : Nat) (a : Array Nat), ((List.replicate n (#[c] : Array Nat)).foldl (· ++ ·) a).toList = a.toList ++ List.replicate n c
  | 0, a => by simp
  | n + 1, a => by
    rw [List.replicate_succ, List.foldl_cons, fold_rep c n]
    rw [Array.toList_append, List.append_assoc]
    rfl
theorem mul_cps {k : Nat} (h : 2 ≤ k) (c : Nat) : (Txt.mul ⟨#[c]⟩ (k : Int)).cps.toList = List.replicate k c := by
  unfold Txt.mul
  rw [if_neg (by omega), if_neg (by
    intro e
    rcases Bool.or_eq_true_iff.mp e with e | e
    · have := (beq_iff_eq.mp e); omega
    · cases e)]
  show ((List.replicate (Int.toNat (k : Int)) (#[c] : Array Nat)).foldl (· ++ ·) #[]).toList = _
  rw [fold_rep, Int.toNat_natCast]
  rfl
theorem val_nines : ∀ n : Nat, digitsVal (List.replicate n 57) + 1 = 10 ^ n
  | 0 => rfl
  | n + 1 => by
    rw [List.replicate_succ', digitsVal_snoc, Nat.pow_succ, ← val_nines n]
    omega
theorem nine_text {k : Nat} (h : 2 ≤ k) (h2 : k ≤ 4300) : PySem.intText? (Txt.mul (Str.ofString "9") (k : Int)) = some (10 ^ k - 1) ∧ (Txt.mul (Str.ofString "9") (k : Int)).length = k := by
  have e : (Txt.mul (Str.ofString "9") (k : Int)).cps.toList = List.replicate k 57 := mul_cps h 57
  have hl : (Txt.mul (Str.ofString "9") (k : Int)).length = k := by
    show Array.size _ = k
    rw [← Array.length_toList, e, List.length_replicate]
  refine ⟨?_, hl⟩
  rw [intText_digits (by rw [e]; intro c hc; rw [List.eq_of_mem_replicate hc]; decide) (by rw [e]; intro z; have := congrArg List.length z; rw [List.length_replicate] at this; simp at this; omega) (by omega), e]
  have v := val_nines k
  have v2 : ((digitsVal (List.replicate k 57) : Nat) : Int) + 1 = ((10 ^ k : Nat) : Int) := by rw [← v]; rfl
  rw [Int.natCast_pow] at v2
  have v3 : ((digitsVal (List.replicate k 57) : Nat) : Int) = 10 ^ k - 1 := by
    rw [show (10 : Int) ^ k = ((10 : Nat) : Int) ^ k from rfl]
    omega
  rw [v3]
theorem nine_ok {k : Nat} (h : k = 400 ∨ k = 800) : MulOk (Str.ofString "9") (k : Int) := by
  rcases h with rfl | rfl <;> exact ⟨by decide, by decide, by decide⟩

theorem w_bitsB {H : Hp} {Q : VK} {i : Int} (h0 : 0 ≤ i) (h1 : i < 2 ^ 2700) (k : ∀ m : Nat, m = Builtin.Int.intBits i → m ≤ 2700 → Q (.int m) H) : BitsE Q (.int i) H := by
  refine ⟨i, rfl, k _ rfl (intBits_le ?_)⟩
  obtain ⟨n, rfl⟩ := Int.eq_ofNat_of_zero_le h0
  rw [Int.natAbs_natCast]
  have h3 : ((n : Nat) : Int) < ((2 ^ 2700 : Nat) : Int) := by rw [Int.natCast_pow]; exact h1
  exact Int.ofNat_lt.mp h3
theorem w_shl1G {H : Hp} {Q : VK} {j : Int} (h0 : 0 ≤ j) (h : j ≤ 2698) (k : ∀ z : Int, z = 2 ^ j.toNat → 1 ≤ z → z ≤ 2 ^ 2698 → Q (.int z) H) : gShl (.int 1) (.int j) H Q :=
  w_shl1F h0 (by omega) (fun z hz h1 _ _ _ => k z hz h1 (by
    have q := (pow_bd (j := j) (m := 2698) (by omega)).2.1
    rw [Int.one_mul] at q
    rw [hz]
    exact q))
theorem val_sevens : ∀ n : Nat, 9 * digitsVal (List.replicate n 55) + 7 = 7 * 10 ^ n
  | 0 => rfl
  | n + 1 => by
    have h := val_sevens n
    rw [List.replicate_succ', digitsVal_snoc, Nat.pow_succ]
    omega
theorem seven_text : ∃ V : Int, PySem.intText? (Txt.mul (Str.ofString "7") 800) = some V ∧ (Txt.mul (Str.ofString "7") 800).length = 800 ∧ 2 ^ 2600 ≤ V ∧ V < 2 ^ 2660 := by
  have e : (Txt.mul (Str.ofString "7") (800 : Nat)).cps.toList = List.replicate 800 55 := mul_cps (by decide) 55
  have hl : (Txt.mul (Str.ofString "7") (800 : Nat)).length = 800 := by
    show Array.size _ = 800
    rw [← Array.length_toList, e, List.length_replicate]
  refine ⟨((digitsVal (List.replicate 800 55) : Nat) : Int), ?_, hl, ?_, ?_⟩
  · show PySem.intText? (Txt.mul (Str.ofString "7") (800 : Nat)) = _
    rw [intText_digits (by rw [e]; intro c hc; rw [List.eq_of_mem_replicate hc]; decide) (by rw [e]; intro z; have := congrArg List.length z; rw [List.length_replicate] at this; simp at this) (by omega), e]
  · have v := val_sevens 800
    have h : 9 * 2 ^ 2600 + 7 ≤ 7 * 10 ^ 800 := by decide +kernel
    have h2 : 2 ^ 2600 ≤ digitsVal (List.replicate 800 55) := by
      generalize digitsVal (List.replicate 800 55) = D at *
      generalize (2 : Nat) ^ 2600 = A at *
      generalize (10 : Nat) ^ 800 = B at *
      omega
    have h3 : ((2 ^ 2600 : Nat) : Int) ≤ ((digitsVal (List.replicate 800 55) : Nat) : Int) := Int.ofNat_le.mpr h2
    rw [Int.natCast_pow] at h3
    exact h3
  · have v := val_sevens 800
    have h : 7 * 10 ^ 800 < 9 * 2 ^ 2660 := by decide +kernel
    have h2 : digitsVal (List.replicate 800 55) < 2 ^ 2660 := by
      generalize digitsVal (List.replicate 800 55) = D at *
      generalize (2 : Nat) ^ 2660 = A at *
      generalize (10 : Nat) ^ 800 = B at *
      omega
    have h3 : ((digitsVal (List.replicate 800 55) : Nat) : Int) < ((2 ^ 2660 : Nat) : Int) := Int.ofNat_lt.mpr h2
    rw [Int.natCast_pow] at h3
    exact h3
local macro_rules | `(tactic| tm_at "rs") => `(tactic| first | ((with_reducible refine w_shl1G ?h ?i (fun _ _ _ _ => ?_)); (case h => omega); (case i => omega)) | ((with_reducible refine w_bitsB ?h ?i (fun _ _ _ => ?_)); (case h => omega); (case i => omega)) | fail "no")

def P18 (vs : List V) : Prop := ∃ (n : Nat) (m : Int), vs = [.int (n : Int), .int m] ∧ n < 2 ^ 2700 ∧ 0 ≤ m ∧ m ≤ 2000
def sp_f_law_box (K : PySem.W.Frag) : Sp := fun vs H Q E => ∃ (a : Addr) (ns : List Int) (i : Int), vs = [.ref a, .int i] ∧ SqL K H a (ns.map V.int) ∧ 0 ≤ i ∧ i ≤ 100000 ∧ ∀ b H', H b = none → Sm H H' → BoxAt H' b → Q (.ref b) H'
theorem call_box {K : PySem.W.Frag} {H : Hp} {Q : VK} {E : XK} {a : Addr} {ns : List Int} {i : Int} (hS : SqL K H a (ns.map V.int)) (h0 : 0 ≤ i) (h1 : i ≤ 100000) (k : ∀ b H', H b = none → Sm H H' → BoxAt H' b → Q (.ref b) H') : sp_f_law_box K [.ref a, .int i] H Q E := ⟨a, ns, i, rfl, hS, h0, h1, k⟩
local macro_rules | `(tactic| tm_at "rs") => `(tactic| ((with_reducible refine' call_box ?h ?i ?j (fun _ _ _ _ _ => ?k)); (case h => tm_at "rsq"); (case i => omega); (case j => omega)))
def sp_f_law_text (K : PySem.W.Frag) : Sp := fun vs H Q E => ∃ (n : Nat), vs = [.int (n : Int)] ∧ n < 2 ^ 2700 ∧ ∀ z : Str, z.cps.toList = btl n → Q (.str z) H
theorem call_text18 {K : PySem.W.Frag} {H : Hp} {Q : VK} {E : XK} {n : Nat} (hn : n < 2 ^ 2700) (k : ∀ z : Str, z.cps.toList = btl n → Q (.str z) H) : sp_f_law_text K [.int (n : Int)] H Q E := ⟨n, rfl, hn, k⟩
def sp_f_bits_of (K : PySem.W.Frag) : Sp := fun vs H Q E => ∃ (n : Nat), vs = [.int (n : Int)] ∧ n < 2 ^ 2700 ∧ ∀ (z : Str) (H' : Hp), z.cps.toList = btl n → Sm H H' → Q (.str z) H'
theorem call_bits_of {K : PySem.W.Frag} {H : Hp} {Q : VK} {E : XK} {n : Nat} (hn : n < 2 ^ 2700) (k : ∀ (z : Str) (H' : Hp), z.cps.toList = btl n → Sm H H' → Q (.str z) H') : sp_f_bits_of K [.int (n : Int)] H Q E := ⟨n, rfl, hn, k⟩
def sp_f_of_bits (K : PySem.W.Frag) : Sp := fun vs H Q E => ∃ (z : Str), vs = [.str z] ∧ z.cps.toList ≠ [] ∧ (∀ c ∈ z.cps.toList, Bit2 c) ∧ ∀ H', Sm H H' → Q (.int (num2 z.cps.toList : Nat)) H'
theorem call_of_bits {K : PySem.W.Frag} {H : Hp} {Q : VK} {E : XK} {z : Str} (hne : z.cps.toList ≠ []) (hb : ∀ c ∈ z.cps.toList, Bit2 c) (k : ∀ H', Sm H H' → Q (.int (num2 z.cps.toList : Nat)) H') : sp_f_of_bits K [.str z] H Q E := ⟨z, rfl, hne, hb, k⟩
def sp_f_law_take (K : PySem.W.Frag) : Sp := fun vs H Q E => ∃ (b : Addr) (w : Int), vs = [.ref b, .int w] ∧ BoxAt H b ∧ Wd w ∧ ∀ d H', 0 ≤ d → d < w → Kp b H H' → BoxAt H' b → Q (.int d) H'
theorem call_take {K : PySem.W.Frag} {H : Hp} {Q : VK} {E : XK} {b : Addr} {w : Int} (hb : BoxAt H b) (hw : Wd w) (k : ∀ d H', 0 ≤ d → d < w → Kp b H H' → BoxAt H' b → Q (.int d) H') : sp_f_law_take K [.ref b, .int w] H Q E := ⟨b, w, rfl, hb, hw, k⟩
local macro_rules | `(tactic| tm_at "rwd") => `(tactic| first | assumption | (apply wd_of <;> omega) | exact ⟨by decide, by decide +kernel⟩ | ((refine' wd_two ?wa ?wb); (case wa => with_reducible assumption); (case wb => omega)) | fail "no")
local macro_rules | `(tactic| tm_at "rs") => `(tactic| ((with_reducible refine call_take ?h ?w (fun _ _ _ _ _ _ => ?_)); (case h => tm_at "rbx"); (case w => tm_at "rwd")))
def sp_f_law_number (K : PySem.W.Frag) : Sp := fun vs H Q E => ∃ (b : Addr), vs = [.ref b] ∧ BoxAt H b ∧ ∀ d H', 0 ≤ d → d < N800 → Kp b H H' → BoxAt H' b → Q (.int d) H'
theorem call_number {K : PySem.W.Frag} {H : Hp} {Q : VK} {E : XK} {b : Addr} (hB : BoxAt H b) (k : ∀ d H', 0 ≤ d → d < N800 → Kp b H H' → BoxAt H' b → Q (.int d) H') : sp_f_law_number K [.ref b] H Q E := ⟨b, rfl, hB, k⟩
local macro_rules | `(tactic| tm_at "rs") => `(tactic| ((with_reducible refine call_number ?h (fun _ _ _ _ _ _ => ?_)); (case h => tm_at "rbx")))
def sp_f_law_any (K : PySem.W.Frag) : Sp := fun vs H Q E => ∃ (b : Addr), vs = [.ref b] ∧ BoxAt H b ∧ ∀ (n : Nat) (H' : Hp), n < 2 ^ 2700 → Kp b H H' → BoxAt H' b → Q (.int (n : Int)) H'
theorem call_any18 {K : PySem.W.Frag} {H : Hp} {Q : VK} {E : XK} {b : Addr} (hB : BoxAt H b) (k : ∀ (n : Nat) (H' : Hp), n < 2 ^ 2700 → Kp b H H' → BoxAt H' b → Q (.int (n : Int)) H') : sp_f_law_any K [.ref b] H Q E := ⟨b, rfl, hB, k⟩
local macro_rules | `(tactic| tm_at "rs") => `(tactic| ((with_reducible refine call_any18 ?h (fun _ _ _ _ _ => ?_)); (case h => tm_at "rbx")))
def sp_f_law (K : PySem.W.Frag) : Sp := fun vs H Q E => ∃ (a : Addr) (ns : List Int), vs = [.ref a] ∧ SqF K H a (ns.map V.int) ∧ ns.length ≤ 63 ∧ ∀ H', Q (.bl true) H'
section
variable {P : Program} {w : World} {K : PySem.W.Frag} {mg : Str → Option Value} {base : Heap}
/-! ### _law_box -/
theorem ok_f_law_box {f : Addr} {fd : FuncData} (F : Fun K "_law_box" "_law_box" s_f_law_box f fd)
    (m_len : mg "len" = none)
    (m_int : mg "int" = none) :
    FnOk P w K mg base CX0 1 f fd ["script", "k"] (sp_f_law_box K) := by
  refine F.ok sc_f_law_box (fun vs H Q E h => ?_) (fun cdv A outer s H vs Q E hr h => ⟨_, (pss_cons (ps_set (i := 2) sc_f_law_box.nd rfl (by first | exact Or.inl rfl | exact Or.inr rfl) (pe_op (op_gAdd (K := K) rfl) (pe_op op_gMul pe_int (pv 1)) pe_int))
    (pss_cons (ps_if (pt_cmpR op_gLt (pv 1) (pe_callB (call_gLen (K := K) rfl) (by rfl) m_len PySem.boot_len (pa_cons (pv 0) pa_nil)) (nomark _)) (pss_one (ps_set (i := 2) sc_f_law_box.nd rfl (by first | exact Or.inl rfl | exact Or.inr rfl) (pe_ix (ix_g (K := K) rfl) (pv 0) (pv 1) (fun _ _ => rfl)))) (pss_one (ps_if (pt_cmpR op_gGt (pe_callB (call_gLen (K := K) rfl) (by rfl) m_len PySem.boot_len (pa_cons (pv 0) pa_nil)) pe_int (nomark _)) (pss_one (ps_set (i := 2) sc_f_law_box.nd rfl (by first | exact Or.inl rfl | exact Or.inr rfl) (pe_op (op_gAdd (K := K) rfl) (pv 2) (pe_op op_gMul (pe_op op_gMod (pe_ix (ix_g (K := K) rfl) (pv 0) (pe_op op_gMod (pv 1) (pe_callB (call_gLen (K := K) rfl) (by rfl) m_len PySem.boot_len (pa_cons (pv 0) pa_nil))) (fun _ _ => rfl)) pe_int) pe_int)))) pss_nil)))
    (pss_cons (ps_set (i := 3) sc_f_law_box.nd rfl (by first | exact Or.inl rfl | exact Or.inr rfl) (pe_op (op_gAdd (K := K) rfl) (pe_op op_gMod (pe_op (op_gAdd (K := K) rfl) (pe_op op_gMul (pe_op op_gMod (pv 2) pe_int) pe_int) (pe_op op_gMul pe_int (pv 1))) pe_int) pe_int))
    (pss_one (ps_ret (pe_lst (pa_cons (pe_ix (ix_g (K := K) rfl) (pe_lst (pa_cons pe_int (pa_cons (pv 2) pa_nil))) (pe_callTy call_gInt (by rfl) m_int PyProof.Rows.boot_int (pa_cons (pe_cmpR op_gGe (pv 2) (pe_op op_gPow pe_int pe_int) (nomark _)) pa_nil)) (fun _ _ => rfl)) (pa_cons (pv 3) pa_nil)))))))), ?_⟩)
  · obtain ⟨_, _, _, rfl, _⟩ := h
    rfl
  · obtain ⟨a, ns, i, rfl, hS, h0, h1, k⟩ := h
    try dsimp only [cxOf, Cx.nox, Cx.wish]
    change (_ : L2.TS) _ [some (.ref a), some (.int i), none, none] _
    refine w_start ?_
    have big : (0 : Int) ≤ 10 ^ Int.toNat 18 := by decide
    repeat' (tm_at "rs")
    · refine w_ixInts hS h0 (by assumption) (fun n _ => ?_)
      repeat' (tm_at "rs")
      all_goals refine k _ _ ?_ ?_ ⟨_, _, by assumption, by omega, by omega, by omega⟩
      all_goals tm_at "rz"
    · rename_i z z1 z2 z3 z4
      refine w_ixInts hS z2 z3 (fun n _ => ?_)
      repeat' (tm_at "rs")
      all_goals refine k _ _ ?_ ?_ ⟨_, _, by assumption, by omega, by omega, by omega⟩
      all_goals tm_at "rz"
    all_goals refine k _ _ ?_ ?_ ⟨_, _, by assumption, by omega, by omega, by omega⟩
    all_goals tm_at "rz"
/-! ### _law_text -/
theorem ok_f_law_text {f : Addr} {fd : FuncData} (F : Fun K "_law_text" "_law_text" s_f_law_text f fd) :
    FnOk P w K mg base CX0 1 f fd ["number"] (sp_f_law_text K) := by
  refine F.ok sc_f_law_text (fun vs H Q E h => ?_) (fun cdv A outer s H vs Q E hr h => ⟨_, (pss_cons (ps_set (i := 1) sc_f_law_text.nd rfl (by first | exact Or.inl rfl | exact Or.inr rfl) pe_str)
    (pss_cons (ps_while PassesOwn.never (pt_cmpR op_gGt (pv 0) pe_int (nomark _)) (pss_cons (ps_set (i := 1) sc_f_law_text.nd rfl (by first | exact Or.inl rfl | exact Or.inr rfl) (pe_op (op_gAdd (K := K) rfl) (pe_ix (ix_g (K := K) rfl) pe_str (pe_op op_gMod (pv 0) pe_int) (fun _ _ => rfl)) (pv 1)))
    (pss_one (ps_set (i := 0) sc_f_law_text.nd rfl (by first | exact Or.inl rfl | exact Or.inr rfl) (pe_op op_gDiv (pv 0) pe_int)))))
    (pss_one (ps_ret (pe_orT (pv 1) (pe_one pe_str)))))), ?_⟩)
  · obtain ⟨_, rfl, _⟩ := h
    rfl
  · obtain ⟨n, rfl, hn, k⟩ := h
    try dsimp only [cxOf, Cx.nox, Cx.wish]
    change (_ : L2.TS) _ [some (.int (n : Int)), none] _
    refine w_start ?_
    have hbl := bl_len 2700 n hn
    repeat' (tm_at "rs")
    refine w_while (fun m σ' H' => ∃ (m' : Nat) (z : Str), σ' = [some (.int (m' : Int)), some (.str z)] ∧ H' = H ∧ bl n = bl m' ++ z.cps.toList ∧ m = m') n ⟨n, Str.ofString "", rfl, rfl, by rw [show (Str.ofString "").cps.toList = [] from rfl, List.append_nil], rfl⟩ ?_
    rintro m σ' H' ⟨m', z, rfl, rfl, hb, rfl⟩
    have hzl : z.length ≤ 2700 := by
      rw [← tl_len]
      have := congrArg List.length hb
      rw [List.length_append] at this
      omega
    repeat' (tm_at "rs")
    · rename_i h0
      have hl2 : (Str.ofString "01").length = 2 := rfl
      refine w_ixSF (by decide) (by omega) (by omega) (fun c hc => ?_)
      have hc2 : c = 48 + m % 2 := by
        rw [show ((m : Int) % 2).toNat = m % 2 by omega] at hc
        rcases Nat.mod_two_eq_zero_or_one m with h | h <;> rw [h] at hc ⊢ <;> (cases hc; rfl)
      repeat' (tm_at "rs")
      refine ⟨m / 2, by omega, m / 2, _, rfl, rfl, ?_, rfl⟩
      rw [hb, bl_eq (n := m) (by omega), app_tl, hc2, List.append_assoc]
    · rename_i h0
      have hm : m = 0 := by omega
      subst hm
      rw [bl_zero, List.nil_append] at hb
      refine w_orS (sz_of (by omega)) (fun ne => ?_) (fun e => ?_)
      · repeat' (tm_at "rs")
        refine k _ ?_
        rw [← hb]
        have hn0 : 0 < n := by
          rcases Nat.eq_zero_or_pos n with h | h
          · rw [h, bl_zero] at hb
            exact absurd hb.symm ne
          · exact h
        rw [btl_pos hn0]
      · repeat' (tm_at "rs")
        refine k _ ?_
        have hn0 : n = 0 := by
          rcases Nat.eq_zero_or_pos n with h | h
          · exact h
          · rw [e] at hb
            exact absurd hb (bl_ne h)
        rw [hn0, btl_zero]
        rfl
/-! ### bits_of -/
theorem ok_f_bits_of {f : Addr} {fd : FuncData} (F : Fun K "bits_of" "bits_of" s_f_bits_of f fd)
    (m_str : mg "str" = none) :
    FnOk P w K mg base CX0 1 f fd ["number"] (sp_f_bits_of K) := by
  refine F.ok sc_f_bits_of (fun vs H Q E h => ?_) (fun cdv A outer s H vs Q E hr h => ⟨_, (pss_cons (ps_set (i := 1) sc_f_bits_of.nd rfl (by first | exact Or.inl rfl | exact Or.inr rfl) (pe_lst pa_nil))
    (pss_cons (ps_while PassesOwn.never (pt_cmpR op_gGt (pv 0) pe_int (nomark _)) (pss_cons (ps_expr (pe_gbm (K := K) rfl PySem.F.plainAttrs_list PySem.F.slot_list_append PySem.F.type_list_append mt_append (pv 1) (pa_cons (pe_callTy call_gStrB (by rfl) m_str PyProof.Rows.boot_str (pa_cons (pe_op op_gAnd (pv 0) pe_int) pa_nil)) pa_nil)))
    (pss_one (ps_aug (i := 0) sc_f_bits_of.nd rfl (by first | exact Or.inl rfl | exact Or.inr rfl) pe_int ip_gShr))))
    (pss_cons (ps_if (pt_cmpR (op_gEq (K := K) rfl hr.units) (pv 1) (pe_lst pa_nil) (nomark _)) (pss_one (ps_ret pe_str)) pss_nil)
    (pss_one (ps_ret (pe_join pe_str (pe_revL (pv 1)))))))), ?_⟩)
  · obtain ⟨_, rfl, _⟩ := h
    rfl
  · obtain ⟨n, rfl, hn, k⟩ := h
    try dsimp only [cxOf, Cx.nox, Cx.wish]
    change (_ : L2.TS) _ [some (.int (n : Int)), none] _
    refine w_start ?_
    have hbl := bl_len 2700 n hn
    repeat' (tm_at "rs")
    rename_i D H1 nD sD gD
    refine w_while (fun m σ' H' => ∃ (m' : Nat) (cs : List Nat), σ' = [some (.int (m' : Int)), some (.ref D)] ∧ H' D = some (.lst ((cs.map sg).map V.str)) ∧ bl n = bl m' ++ cs.reverse ∧ Sm H H' ∧ m = m') n ⟨n, [], rfl, gD, by rw [List.reverse_nil, List.append_nil], sD, rfl⟩ ?_
    rintro m σ' H' ⟨m', cs, rfl, hD, hb, hs, rfl⟩
    have hcl : cs.length ≤ 2700 := by
      have := congrArg List.length hb
      rw [List.length_append, List.length_reverse] at this
      omega
    have hz : ((cs.map sg).map V.str).length ≤ 2700 := by rw [List.length_map, List.length_map]; exact hcl
    repeat' (tm_at "rs")
    · rename_i h0 z hz1 hz2 hz3 hz4
      have hzm : z = ((m % 2 : Nat) : Int) := by
        rw [hz1, and_one (by omega)]
        rfl
      refine w_strB (by omega) ?_
      repeat' (tm_at "rs")
      rename_i H2 kp2 g2
      have hd2 : (m : Int) / 2 = ((m / 2 : Nat) : Int) := rfl
      refine ⟨m / 2, by omega, m / 2, cs ++ [48 + m % 2], by rw [← hd2]; rfl, ?_, ?_, by tm_at "rsm", rfl⟩
      · rw [g2, List.map_append, List.map_append, hzm]
        rfl
      · rw [hb, bl_eq (n := m) (by omega), List.reverse_append, List.append_assoc]
        rfl
    · rename_i h0 e H2 ne se ge
      have hm : m = 0 := by omega
      subst hm
      rw [bl_zero, List.nil_append] at hb
      have hbit : ∀ c ∈ cs, c < 1000 := fun c hc => by
        have := bl_bit n c (by rw [hb]; exact List.mem_reverse.mpr hc)
        rcases this with rfl | rfl <;> decide
      have hD2 := se _ _ hD
      refine w_eqNilT (sq_of hD2) (sq_of ge) (sg_ok hbit) ?_
      repeat' (tm_at "rs")
      · rename_i hh
        refine k _ _ ?_ (by tm_at "rsm")
        have hcs : cs = [] := List.map_eq_nil_iff.mp hh
        rw [hcs] at hb
        have hn0 : n = 0 := by
          rcases Nat.eq_zero_or_pos n with h | h
          · exact h
          · exact absurd hb (bl_ne h)
        rw [hn0, btl_zero]
        rfl
      · rename_i hh r H3 nr sr gr
        have hcs : cs ≠ [] := fun e => hh (by rw [e]; rfl)
        have hn0 : 0 < n := by
          rcases Nat.eq_zero_or_pos n with h | h
          · rw [h, bl_zero] at hb
            exact absurd (List.reverse_eq_nil_iff.mp hb.symm) hcs
          · exact h
        rw [← List.map_reverse, ← List.map_reverse] at gr
        refine w_joinE (sq_of gr) (fun y hy => ?_) (by rw [List.length_map, List.length_reverse]; omega) ?_
        · obtain ⟨c, hc, rfl⟩ := List.mem_map.mp hy
          rfl
        · repeat' (tm_at "rs")
          refine k _ _ ?_ (by tm_at "rsm")
          rw [join_sg, btl_pos hn0, hb]
/-! ### of_bits -/
theorem ok_f_of_bits {f : Addr} {fd : FuncData} (F : Fun K "of_bits" "of_bits" s_f_of_bits f fd)
    (m_enumerate : mg "enumerate" = none)
    (m_int : mg "int" = none)
    (z_nd : NoDig K) :
    FnOk P w K mg base CX0 1 f fd ["text"] (sp_f_of_bits K) := by
  refine F.ok sc_f_of_bits (fun vs H Q E h => ?_) (fun cdv A outer s H vs Q E hr h => ⟨_, (pss_cons (ps_for PassesOwn.never rfl (pi_SE (by rfl) m_enumerate (pa_cons (pv 0) pa_nil)) (pg_gt (K := K) (n := 2) rfl rfl (pgs_cons (pg_name (i := 1) sc_f_of_bits.nd rfl (by first | exact Or.inl rfl | exact Or.inr rfl)) (pgs_cons (pg_name (i := 2) sc_f_of_bits.nd rfl (by first | exact Or.inl rfl | exact Or.inr rfl)) pgs_nil))) (pss_one (ps_if (pt_cmpR op_gNotInS (pv 2) pe_str (by rfl)) (pss_one ps_never) pss_nil)))
    (pss_cons (ps_if (pt_cmpR (op_gEq (K := K) rfl hr.units) (pv 0) pe_str (nomark _)) (pss_one ps_never) pss_nil)
    (pss_one (ps_ret (pe_callTy (call_intText2 z_nd) (by rfl) m_int PyProof.Rows.boot_int (pa_cons (pv 0) (pa_cons pe_int pa_nil))))))), ?_⟩)
  · obtain ⟨_, rfl, _⟩ := h
    rfl
  · obtain ⟨z, rfl, hne, hb, k⟩ := h
    try dsimp only [cxOf, Cx.nox, Cx.wish]
    change (_ : L2.TS) _ [some (.str z), none, none] _
    refine w_start ?_
    repeat' (tm_at "rs")
    refine loopSE (fun i σ' H' => ∃ x1 x2, σ' = [some (.str z), x1, x2] ∧ Sm H H') ⟨_, _, rfl, Same.refl _⟩ ?_ ?_
    · rintro i c T σ' H1 H2 hi hc ⟨x1, x2, rfl, hs⟩ nT sT gT
      have hbc := hb c (List.mem_of_getElem? hc)
      repeat' (tm_at "rs")
      · rename_i hh
        refine hh ?_
        rcases hbc with rfl | rfl <;> decide
      · exact ⟨_, _, rfl, by tm_at "rsm"⟩
    · rintro σ' H1 ⟨x1, x2, rfl, hs⟩
      repeat' (tm_at "rs")
      · rename_i hh
        rw [hh] at hne
        exact hne rfl
      · refine w_intText2 hne hb ?_
        repeat' (tm_at "rs")
        exact k _ hs
/-! ### _law_take -/
theorem ok_f_law_take {f : Addr} {fd : FuncData} (F : Fun K "_law_take" "_law_take" s_f_law_take f fd) :
    FnOk P w K mg base CX0 1 f fd ["box", "wide"] (sp_f_law_take K) := by
  refine F.ok sc_f_law_take (fun vs H Q E h => ?_) (fun cdv A outer s H vs Q E hr h => ⟨_, (pss_cons (ps_if (pt_cmpR op_gGt (pe_ix (ix_g (K := K) rfl) (pv 0) pe_int (fun _ _ => rfl)) pe_int (nomark _)) (pss_cons (ps_set (i := 2) sc_f_law_take.nd rfl (by first | exact Or.inl rfl | exact Or.inr rfl) (pe_op op_gMod (pe_ix (ix_g (K := K) rfl) (pv 0) pe_int (fun _ _ => rfl)) (pv 1)))
    (pss_cons (ps_asg (pe_op op_gDiv (pe_ix (ix_g (K := K) rfl) (pv 0) pe_int (fun _ _ => rfl)) (pv 1)) (pg_sub (pv 0) pe_int set_list))
    (pss_one (ps_ret (pv 2))))) pss_nil)
    (pss_cons (ps_set (i := 3) sc_f_law_take.nd rfl (by first | exact Or.inl rfl | exact Or.inr rfl) (pe_op op_gMod (pe_op op_gMul (pe_ix (ix_g (K := K) rfl) (pv 0) pe_int (fun _ _ => rfl)) pe_int) pe_int))
    (pss_cons (ps_asg (pe_op (op_gAdd (K := K) rfl) (pe_op op_gMod (pe_op (op_gAdd (K := K) rfl) (pe_op op_gMul (pv 3) pe_int) pe_int) pe_int) pe_int) (pg_sub (pv 0) pe_int set_list))
    (pss_one (ps_ret (pe_op op_gMod (pe_op op_gDiv (pe_op (op_gAdd (K := K) rfl) (pe_op op_gMul (pv 3) pe_int) (pe_ix (ix_g (K := K) rfl) (pv 0) pe_int (fun _ _ => rfl))) pe_int) (pv 1))))))), ?_⟩)
  · obtain ⟨_, _, rfl, _⟩ := h
    rfl
  · obtain ⟨b, w, rfl, hB, hw, k⟩ := h
    try dsimp only [cxOf, Cx.nox, Cx.wish]
    change (_ : L2.TS) _ [some (.ref b), some (.int w), none, none] _
    refine w_start ?_
    obtain ⟨x, s, hb, hx, hs, hs2⟩ := hB
    obtain ⟨hw0, hw1⟩ := hw
    repeat' (tm_at "rs")
    · refine k _ _ (by omega) (by omega) (by assumption) ⟨_, _, by assumption, ?_, hs, hs2⟩
      exact Int.ediv_nonneg hx (by omega)
    · refine k _ _ (by omega) (by omega) (by assumption) ⟨_, _, by assumption, hx, ?_, ?_⟩
      · omega
      · omega
/-! ### _law_number -/
theorem ok_f_law_number {f : Addr} {fd : FuncData} (F : Fun K "_law_number" "_law_number" s_f_law_number f fd)
    (D_f_law_take : Def P w K mg base CX0 "_law_take" 1 ["box", "wide"] (sp_f_law_take K))
    (m_int : mg "int" = none)
    (z_nd : NoDig K) :
    FnOk P w K mg base CX0 2 f fd ["box"] (sp_f_law_number K) := by
  refine F.ok sc_f_law_number (fun vs H Q E h => ?_) (fun cdv A outer s H vs Q E hr h => ⟨_, (pss_cons (ps_set (i := 1) sc_f_law_number.nd rfl (by first | exact Or.inl rfl | exact Or.inr rfl) (pe_f D_f_law_take (hr.mono (by decide)) (by rfl) pass0 (pa_cons (pv 0) (pa_cons pe_int pa_nil))))
    (pss_cons (ps_if (pt_cmpR op_gLt (pv 1) pe_int (nomark _)) (pss_one (ps_ret (pe_f D_f_law_take (hr.mono (by decide)) (by rfl) pass0 (pa_cons (pv 0) (pa_cons (pe_ix (ix_g (K := K) rfl) (pe_lst (pa_cons pe_int (pa_cons pe_int (pa_cons pe_int (pa_cons pe_int (pa_cons pe_int (pa_cons (pe_op op_gPow pe_int pe_int) pa_nil))))))) (pv 1) (fun _ _ => rfl)) pa_nil))))) pss_nil)
    (pss_one (ps_ret (pe_ix (ix_g (K := K) rfl) (pe_lst (pa_cons (pe_f D_f_law_take (hr.mono (by decide)) (by rfl) pass0 (pa_cons (pv 0) (pa_cons (pe_op op_gPow pe_int pe_int) pa_nil))) (pa_cons (pe_op op_sub (pe_callTy (call_intText z_nd) (by rfl) m_int PyProof.Rows.boot_int (pa_cons (pe_op op_gMulS pe_str (pe_ix (ix_g (K := K) rfl) (pe_lst (pa_cons pe_int (pa_cons pe_int pa_nil))) (pe_f D_f_law_take (hr.mono (by decide)) (by rfl) pass0 (pa_cons (pv 0) (pa_cons pe_int pa_nil))) (fun _ _ => rfl))) pa_nil)) (pe_f D_f_law_take (hr.mono (by decide)) (by rfl) pass0 (pa_cons (pv 0) (pa_cons (pe_op op_gPow pe_int pe_int) pa_nil)))) pa_nil))) (pe_op op_sub (pv 1) pe_int) (fun _ _ => rfl)))))), ?_⟩)
  · obtain ⟨_, rfl, _⟩ := h
    rfl
  · obtain ⟨b, rfl, hB, k⟩ := h
    try dsimp only [cxOf, Cx.nox, Cx.wish]
    change (_ : L2.TS) _ [some (.ref b), none] _
    refine w_start ?_
    have p6 : (10 : Int) ^ Int.toNat 6 = 1000000 := by decide
    have n1 := n800_pos
    repeat' (tm_at "rs")
    · refine k _ _ (by omega) (by omega) ?_ ?_
      · tm_at "rkp"
      · tm_at "rbx"
    · rename_i z hz
      obtain ⟨m, hm, rfl⟩ : ∃ m : Nat, (m = 400 ∨ m = 800) ∧ z = (m : Int) := by
        rcases (show z = 400 ∨ z = 800 by omega) with rfl | rfl
        · exact ⟨400, .inl rfl, rfl⟩
        · exact ⟨800, .inr rfl, rfl⟩
      refine w_mulS (nine_ok hm) ?_
      obtain ⟨hn, hl⟩ := nine_text (k := m) (by omega) (by omega)
      repeat' (tm_at "rs")
      refine w_intText hn (by rw [hl]; exact sz_of (by omega)) ?_
      have q : 10 ^ 60 ≤ (10 : Int) ^ m - 1 ∧ (10 : Int) ^ m - 1 < N800 := by
        rcases hm with rfl | rfl <;> exact ⟨by decide +kernel, by decide +kernel⟩
      have p30 : (10 : Int) ^ Int.toNat 30 < 10 ^ 60 := by decide +kernel
      have p40 : (10 : Int) ^ Int.toNat 40 < 10 ^ 60 := by decide +kernel
      generalize (10 : Int) ^ m = T at *
      repeat' (tm_at "rs")
      refine k _ _ (by omega) (by omega) ?_ ?_
      · tm_at "rkp"
      · tm_at "rbx"
/-! ### _law_any -/
theorem ok_f_law_any {f : Addr} {fd : FuncData} (F : Fun K "_law_any" "_law_any" s_f_law_any f fd)
    (D_f_law_take : Def P w K mg base CX0 "_law_take" 1 ["box", "wide"] (sp_f_law_take K))
    (D_f_law_number : Def P w K mg base CX0 "_law_number" 2 ["box"] (sp_f_law_number K))
    (m_max : mg "max" = none) :
    FnOk P w K mg base CX0 3 f fd ["box"] (sp_f_law_any K) := by
  refine F.ok sc_f_law_any (fun vs H Q E h => ?_) (fun cdv A outer s H vs Q E hr h => ⟨_, (pss_cons (ps_set (i := 1) sc_f_law_any.nd rfl (by first | exact Or.inl rfl | exact Or.inr rfl) (pe_f D_f_law_take (hr.mono (by decide)) (by rfl) pass0 (pa_cons (pv 0) (pa_cons pe_int pa_nil))))
    (pss_cons (ps_if (pt_cmpR (op_gEq (K := K) rfl hr.units) (pv 1) pe_int (nomark _)) (pss_one (ps_ret (pe_f D_f_law_number (hr.mono (by decide)) (by rfl) pass0 (pa_cons (pv 0) pa_nil)))) pss_nil)
    (pss_cons (ps_if (pt_cmpR (op_gEq (K := K) rfl hr.units) (pv 1) pe_int (nomark _)) (pss_one (ps_ret (pe_callB (call_gMax rfl) (by rfl) m_max (by decide +kernel) (pa_cons pe_int (pa_cons (pe_op op_sub (pe_op (op_gAdd (K := K) rfl) (pe_op op_gShl pe_int (pe_f D_f_law_take (hr.mono (by decide)) (by rfl) pass0 (pa_cons (pv 0) (pa_cons pe_int pa_nil)))) (pe_f D_f_law_take (hr.mono (by decide)) (by rfl) pass0 (pa_cons (pv 0) (pa_cons pe_int pa_nil)))) pe_int) pa_nil))))) pss_nil)
    (pss_one (ps_ret (pe_f D_f_law_take (hr.mono (by decide)) (by rfl) pass0 (pa_cons (pv 0) (pa_cons pe_int pa_nil)))))))), ?_⟩)
  · obtain ⟨_, rfl, _⟩ := h
    rfl
  · obtain ⟨b, rfl, hB, k⟩ := h
    try dsimp only [cxOf, Cx.nox, Cx.wish]
    change (_ : L2.TS) _ [some (.ref b), none] _
    refine w_start ?_
    repeat' (tm_at "rs")
    all_goals have h8 : N800 ≤ ((2 ^ 2700 : Nat) : Int) := by decide +kernel
    all_goals have h9 : (2 : Int) ^ 2698 + 10 ≤ ((2 ^ 2700 : Nat) : Int) := by decide +kernel
    all_goals have h7 : (10 : Int) ≤ ((2 ^ 2700 : Nat) : Int) := by decide +kernel
    all_goals generalize (2 : Nat) ^ 2700 = B at *
    · rename_i d H2 d0 d1 kp2 bx2
      obtain ⟨n, rfl⟩ := Int.eq_ofNat_of_zero_le d0
      exact k _ _ (by omega) (by tm_at "rkp") (by tm_at "rbx")
    · rename_i z hz hz1 hz2 d H2 d0 d1 kp2 bx2
      generalize (2 : Int) ^ 2698 = C at *
      obtain ⟨n, e⟩ := Int.eq_ofNat_of_zero_le (show 0 ≤ max 0 (z + d - 1) by omega)
      rw [e]
      exact k _ _ (by omega) (by tm_at "rkp") (by tm_at "rbx")
    · rename_i d H2 d0 d1 kp2 bx2
      obtain ⟨n, rfl⟩ := Int.eq_ofNat_of_zero_le d0
      exact k _ _ (by omega) (by tm_at "rkp") (by tm_at "rbx")
/-! ### law -/
theorem ok_f_law {f : Addr} {fd : FuncData} (F : Fun K "law" "law" s_f_law f fd)
    (D_f_law_box : Def P w K mg base CX0 "_law_box" 1 ["script", "k"] (sp_f_law_box K))
    (D_f_law_text : Def P w K mg base CX0 "_law_text" 1 ["number"] (sp_f_law_text K))
    (D_f_bits_of : Def P w K mg base CX0 "bits_of" 1 ["number"] (sp_f_bits_of K))
    (D_f_of_bits : Def P w K mg base CX0 "of_bits" 1 ["text"] (sp_f_of_bits K))
    (D_f_law_any : Def P w K mg base CX0 "_law_any" 3 ["box"] (sp_f_law_any K))
    (D_f_law_take : Def P w K mg base CX0 "_law_take" 1 ["box", "wide"] (sp_f_law_take K))
    (m_range : mg "range" = none)
    (m_max : mg "max" = none)
    (m_min : mg "min" = none)
    (m_len : mg "len" = none)
    (m_isinstance : mg "isinstance" = none)
    (m_str : mg "str" = none)
    (m_bool : mg "bool" = none)
    (m_int : mg "int" = none) :
    FnOk P w K mg base CX0 4 f fd ["script"] (sp_f_law K) := by
  refine F.ok sc_f_law (fun vs H Q E h => ?_) (fun cdv A outer s H vs Q E hr h => ⟨_, (pss_cons (ps_set (i := 1) sc_f_law.nd rfl (by first | exact Or.inl rfl | exact Or.inr rfl) (pe_lst pa_nil))
    (pss_cons (ps_for PassesOwn.never rfl (pi_range1 (by rfl) m_range (pa_cons (pe_callB (call_gMax rfl) (by rfl) m_max (by decide +kernel) (pa_cons pe_int (pa_cons (pe_callB (call_gMin rfl) (by rfl) m_min (by decide +kernel) (pa_cons pe_int (pa_cons (pe_callB (call_gLen (K := K) rfl) (by rfl) m_len PySem.boot_len (pa_cons (pv 0) pa_nil)) pa_nil))) pa_nil))) pa_nil)) (pg_name (i := 2) sc_f_law.nd rfl (by first | exact Or.inl rfl | exact Or.inr rfl)) (pss_cons (ps_set (i := 3) sc_f_law.nd rfl (by first | exact Or.inl rfl | exact Or.inr rfl) (pe_f D_f_law_box (hr.mono (by decide)) (by rfl) pass0 (pa_cons (pv 0) (pa_cons (pv 2) pa_nil))))
    (pss_one (ps_expr (pe_gbm (K := K) rfl PySem.F.plainAttrs_list PySem.F.slot_list_append PySem.F.type_list_append mt_append (pv 1) (pa_cons (pe_tup (pa_cons (pe_f D_f_law_any (hr.mono (by decide)) (by rfl) pass0 (pa_cons (pv 3) pa_nil)) (pa_cons (pe_f D_f_law_take (hr.mono (by decide)) (by rfl) pass0 (pa_cons (pv 3) (pa_cons (pe_ix (ix_g (K := K) rfl) (pe_lst (pa_cons pe_int (pa_cons pe_int (pa_cons pe_int (pa_cons pe_int (pa_cons pe_int (pa_cons pe_int (pa_cons pe_int (pa_cons pe_int pa_nil))))))))) (pe_f D_f_law_take (hr.mono (by decide)) (by rfl) pass0 (pa_cons (pv 3) (pa_cons pe_int pa_nil))) (fun _ _ => rfl)) pa_nil))) pa_nil))) pa_nil))))))
    (pss_cons (ps_for PassesOwn.never rfl (pi_gl (K := K) rfl (pe_op (op_gAdd (K := K) rfl) (pv 1) (pe_slice (sl_gl (K := K) rfl) (pv 1) po_none (po_some pe_int)))) (pg_gt (K := K) (n := 2) rfl rfl (pgs_cons (pg_name (i := 4) sc_f_law.nd rfl (by first | exact Or.inl rfl | exact Or.inr rfl)) (pgs_cons (pg_name (i := 5) sc_f_law.nd rfl (by first | exact Or.inl rfl | exact Or.inr rfl)) pgs_nil))) (pss_cons (ps_set (i := 6) sc_f_law.nd rfl (by first | exact Or.inl rfl | exact Or.inr rfl) (pe_f D_f_law_text (hr.mono (by decide)) (by rfl) pass0 (pa_cons (pv 4) pa_nil)))
    (pss_cons (ps_set (i := 7) sc_f_law.nd rfl (by first | exact Or.inl rfl | exact Or.inr rfl) (pe_f D_f_bits_of (hr.mono (by decide)) (by rfl) pass0 (pa_cons (pv 4) pa_nil)))
    (pss_cons (ps_if (PW.pt (pw_or (pt_not (pt_val (pe_callB (call_gIsi (K := K) rfl) (by rfl) m_isinstance PyProof.Rows.boot_isinstance (pa_cons (pv 7) (pa_cons (pe_bltn (v := .ty "str") (by rfl) m_str PyProof.Rows.boot_str rfl) pa_nil))))) (pw_or1 (pt_cmpR (op_gNe (K := K) rfl hr.units) (pv 7) (pv 6) (nomark _))))) (pss_one (ps_ret pe_bl)) pss_nil)
    (pss_one (ps_for PassesOwn.never rfl (pi_gt (K := K) rfl (pe_tup (pa_cons (pv 6) (pa_cons (pe_op (op_gAdd (K := K) rfl) (pe_op op_gMulS pe_str (pv 5)) (pv 6)) (pa_cons (pv 7) pa_nil))))) (pg_name (i := 8) sc_f_law.nd rfl (by first | exact Or.inl rfl | exact Or.inr rfl)) (pss_cons (ps_set (i := 9) sc_f_law.nd rfl (by first | exact Or.inl rfl | exact Or.inr rfl) (pe_f D_f_of_bits (hr.mono (by decide)) (by rfl) pass0 (pa_cons (pv 8) pa_nil)))
    (pss_one (ps_if (PW.pt (pw_or (pt_val (pe_callB (call_gIsi (K := K) rfl) (by rfl) m_isinstance PyProof.Rows.boot_isinstance (pa_cons (pv 9) (pa_cons (pe_bltn (v := .ty "bool") (by rfl) m_bool PyProof.Rows.boot_bool rfl) pa_nil)))) (pw_or (pt_not (pt_val (pe_callB (call_gIsi (K := K) rfl) (by rfl) m_isinstance PyProof.Rows.boot_isinstance (pa_cons (pv 9) (pa_cons (pe_bltn (v := .ty "int") (by rfl) m_int PyProof.Rows.boot_int rfl) pa_nil))))) (pw_or1 (pt_cmpR (op_gNe (K := K) rfl hr.units) (pv 9) (pv 4) (nomark _)))))) (pss_one (ps_ret pe_bl)) pss_nil)))))))))
    (pss_one (ps_ret pe_bl))))), ?_⟩)
  · obtain ⟨_, _, rfl, _⟩ := h
    rfl
  · obtain ⟨a, ns, rfl, hS, hlen, k⟩ := h
    try dsimp only [cxOf, Cx.nox, Cx.wish]
    change (_ : L2.TS) _ [some (.ref a), none, none, none, none, none, none, none, none, none] _
    refine w_start ?_
    have hl0 : (ns.map V.int).length ≤ 63 := by rw [List.length_map]; exact hlen
    repeat' (tm_at "rs")
    rename_i l H5 n5 s5 g5
    refine loopR (fun i σ' H' => ∃ (x2 x3 x4 x5 x6 x7 x8 x9 : Option V) (ys : List V), σ' = [some (.ref a), some (.ref l), x2, x3, x4, x5, x6, x7, x8, x9] ∧ H' l = some (.lst ys) ∧ ys.length = i ∧ AllT P18 ys H' ∧ SqF K H' a (ns.map V.int)) ?_ ?_ ?_
    · exact ⟨_, _, _, _, _, _, _, _, [], rfl, g5, rfl, AllT.nil, by tm_at "rsf"⟩
    · rintro i σ' H0 hi ⟨x2, x3, x4, x5, x6, x7, x8, x9, ys, rfl, hD, hy, hT, hS'⟩
      have hyl : ys.length ≤ 100 := by omega
      repeat' (tm_at "rs")
      rename_i bx Ha nb sa hb n Hb hn kb hbb lt Hc nc sc gc w Hd w0 w1 kd bd c hc m He m0 m1 ke be t Hf nt st gt Hg kg gg
      have sm0 : Sm H0 Hf := by tm_at "rsm"
      have p18 : P18 [.int (n : Int), .int m] := ⟨n, m, rfl, hn, m0, by omega⟩
      refine ⟨_, _, _, _, _, _, _, _, _, rfl, gg, by rw [List.length_append, hy]; rfl, ?_, ?_⟩
      · tm_at "rall"
      · have hS2 := hS'.sm sm0
        clear hS' hS
        tm_at "rsf"
    · rintro σ' H0 ⟨x2, x3, x4, x5, x6, x7, x8, x9, ys, rfl, hD, hy, hT, hS'⟩
      have hyl : ys.length ≤ 100 := by omega
      repeat' (tm_at "rs")
      rename_i p2 H2 m2 u2 v2 q3 H3 m3 u3 v3
      have hA : AllT P18 (ys ++ cutV ys none (some 1)) H3 := by tm_at "rall"
      refine loopL (xs := ys ++ cutV ys none (some 1)) (fun i σ' H' => ∃ (x2 x3 x4 x5 x6 x7 x8 x9 : Option V), σ' = [some (.ref a), some (.ref l), x2, x3, x4, x5, x6, x7, x8, x9] ∧ Sm H3 H') ?_ ?_ ?_ ?_
      · exact ⟨_, _, _, _, _, _, _, _, rfl, Same.refl _⟩
      · rintro i σ' H' hi ⟨x2, x3, x4, x5, x6, x7, x8, x9, rfl, hs⟩
        exact sq_of (hs _ _ v3)
      · rintro i x σ' H' hi ⟨x2, x3, x4, x5, x6, x7, x8, x9, rfl, hs⟩
        obtain ⟨t, vs, rfl, ht, n, m, rfl, hn, m0, m1⟩ := hA.at hi
        have ht := hs _ _ ht
        have hbn := btl_len hn (by omega)
        repeat' (tm_at "rs")
        refine call_text18 hn (fun z hz => ?_)
        have hzl : z.length ≤ 2700 := by rw [← tl_len, hz]; exact hbn
        have hmt := zeros_tl m0
        have hml : (Txt.mul (Str.ofString "0") m).length ≤ 2000 := by rw [← tl_len, hmt, List.length_replicate]; omega
        repeat' (tm_at "rs")
        refine call_bits_of hn (fun z2 H6 hz2 s6 => ?_)
        obtain rfl : z2 = z := str_ext (hz2.trans hz.symm)
        repeat' (tm_at "rs")
        · rename_i hh
          exact absurd rfl hh
        refine w_mulS (zeros_ok m0 (by omega)) ?_
        repeat' (tm_at "rs")
        rename_i he tp H7 nt7 st7 gt7
        have hok : ∀ x ∈ [V.str z2, V.str (Txt.mul (Str.ofString "0") m ++ z2), V.str z2], ∃ y : Str, x = .str y ∧ y.cps.toList ≠ [] ∧ (∀ c ∈ y.cps.toList, Bit2 c) ∧ num2 y.cps.toList = n := by
          have h1 : z2.cps.toList ≠ [] ∧ (∀ c ∈ z2.cps.toList, Bit2 c) ∧ num2 z2.cps.toList = n := by
            rw [hz]
            exact ⟨btl_ne n, btl_bit n, num2_btl n⟩
          intro x hx
          rcases List.mem_cons.mp hx with rfl | hx
          · exact ⟨z2, rfl, h1⟩
          rcases List.mem_cons.mp hx with rfl | hx
          · refine ⟨_, rfl, ?_⟩
            rw [app_tl, hmt, num2_zeros]
            refine ⟨fun e => h1.1 (List.append_eq_nil_iff.mp e).2, fun c hc => ?_, h1.2.2⟩
            rcases List.mem_append.mp hc with hc | hc
            · exact .inl (List.eq_of_mem_replicate hc)
            · exact h1.2.1 c hc
          · rw [List.mem_singleton.mp hx]
            exact ⟨z2, rfl, h1⟩
        refine loopT (xs := [V.str z2, V.str (Txt.mul (Str.ofString "0") m ++ z2), V.str z2]) (fun j σ2 H8 => ∃ (x8 x9 : Option V), σ2 = [some (.ref a), some (.ref l), x2, x3, some (.int (n : Int)), some (.int m), some (.str z2), some (.str z2), x8, x9] ∧ Sm H7 H8) ?_ ?_ ?_ ?_
        · exact ⟨_, _, rfl, Same.refl _⟩
        · rintro j σ2 H8 hj ⟨x8, x9, rfl, hs8⟩
          exact st_of (hs8 _ _ gt7)
        · rintro j x σ2 H8 hj ⟨x8, x9, rfl, hs8⟩
          obtain ⟨y, rfl, y1, y2, y3⟩ := hok x (List.mem_of_getElem? hj)
          repeat' (tm_at "rs")
          refine call_of_bits y1 y2 (fun H9 s9 => ?_)
          rw [y3]
          repeat' (tm_at "rs")
          all_goals first | (rename_i hh; exact absurd rfl hh) | exact ⟨_, _, rfl, by tm_at "rsm"⟩
        · rintro σ2 H8 ⟨x8, x9, rfl, hs8⟩
          repeat' (tm_at "rs")
          exact ⟨_, _, _, _, _, _, _, _, rfl, by tm_at "rsm"⟩
      · rintro σ' H' ⟨x2, x3, x4, x5, x6, x7, x8, x9, rfl, hs⟩
        repeat' (tm_at "rs")
        exact k _
end
theorem all_mk {l : PySem.W.OpenLaw} {w : World} {K : PySem.W.Frag} {h : Heap} {mg : Str → Option Value} {fa : Addr} (X : K.In h) (G : h.Ns mainGlobals mg) (hfa : mg "law" = some (.ref fa))
    {f0 : Addr} {od0 an0 : Option Addr} {sl0 : Array (Option Value)} {oc0 kV0 dc0 pm0 cd0 ct0 : Value}
    {f1 : Addr} {od1 an1 : Option Addr} {sl1 : Array (Option Value)} {oc1 kV1 dc1 pm1 cd1 ct1 : Value}
    {f2 : Addr} {od2 an2 : Option Addr} {sl2 : Array (Option Value)} {oc2 kV2 dc2 pm2 cd2 ct2 : Value}
    {f3 : Addr} {od3 an3 : Option Addr} {sl3 : Array (Option Value)} {oc3 kV3 dc3 pm3 cd3 ct3 : Value}
    {f4 : Addr} {od4 an4 : Option Addr} {sl4 : Array (Option Value)} {oc4 kV4 dc4 pm4 cd4 ct4 : Value}
    {f5 : Addr} {od5 an5 : Option Addr} {sl5 : Array (Option Value)} {oc5 kV5 dc5 pm5 cd5 ct5 : Value}
    {f6 : Addr} {od6 an6 : Option Addr} {sl6 : Array (Option Value)} {oc6 kV6 dc6 pm6 cd6 ct6 : Value}
    {f7 : Addr} {od7 an7 : Option Addr} {sl7 : Array (Option Value)} {oc7 kV7 dc7 pm7 cd7 ct7 : Value}
    (a0 : PySem.W.nsIn K mainGlobals "_law_box" = some (some (.ref f0))) (l0 : K.lookup f0 = some ⟨oc0, od0, .func (PySem.W.fnOf "_law_box" "_law_box" (defArgs s_f_law_box) (defBody s_f_law_box) (defScope s_f_law_box) .none kV0 dc0 pm0 an0 cd0 ct0), sl0⟩) (c0 : PySem.W.codeIn K cd0 "_law_box" = true) (k0 : PySem.W.keepIn K (.ref f0) = true)
    (a1 : PySem.W.nsIn K mainGlobals "_law_text" = some (some (.ref f1))) (l1 : K.lookup f1 = some ⟨oc1, od1, .func (PySem.W.fnOf "_law_text" "_law_text" (defArgs s_f_law_text) (defBody s_f_law_text) (defScope s_f_law_text) .none kV1 dc1 pm1 an1 cd1 ct1), sl1⟩) (c1 : PySem.W.codeIn K cd1 "_law_text" = true) (k1 : PySem.W.keepIn K (.ref f1) = true)
    (a2 : PySem.W.nsIn K mainGlobals "bits_of" = some (some (.ref f2))) (l2 : K.lookup f2 = some ⟨oc2, od2, .func (PySem.W.fnOf "bits_of" "bits_of" (defArgs s_f_bits_of) (defBody s_f_bits_of) (defScope s_f_bits_of) .none kV2 dc2 pm2 an2 cd2 ct2), sl2⟩) (c2 : PySem.W.codeIn K cd2 "bits_of" = true) (k2 : PySem.W.keepIn K (.ref f2) = true)
    (a3 : PySem.W.nsIn K mainGlobals "of_bits" = some (some (.ref f3))) (l3 : K.lookup f3 = some ⟨oc3, od3, .func (PySem.W.fnOf "of_bits" "of_bits" (defArgs s_f_of_bits) (defBody s_f_of_bits) (defScope s_f_of_bits) .none kV3 dc3 pm3 an3 cd3 ct3), sl3⟩) (c3 : PySem.W.codeIn K cd3 "of_bits" = true) (k3 : PySem.W.keepIn K (.ref f3) = true)
    (a4 : PySem.W.nsIn K mainGlobals "_law_take" = some (some (.ref f4))) (l4 : K.lookup f4 = some ⟨oc4, od4, .func (PySem.W.fnOf "_law_take" "_law_take" (defArgs s_f_law_take) (defBody s_f_law_take) (defScope s_f_law_take) .none kV4 dc4 pm4 an4 cd4 ct4), sl4⟩) (c4 : PySem.W.codeIn K cd4 "_law_take" = true) (k4 : PySem.W.keepIn K (.ref f4) = true)
    (a5 : PySem.W.nsIn K mainGlobals "_law_number" = some (some (.ref f5))) (l5 : K.lookup f5 = some ⟨oc5, od5, .func (PySem.W.fnOf "_law_number" "_law_number" (defArgs s_f_law_number) (defBody s_f_law_number) (defScope s_f_law_number) .none kV5 dc5 pm5 an5 cd5 ct5), sl5⟩) (c5 : PySem.W.codeIn K cd5 "_law_number" = true) (k5 : PySem.W.keepIn K (.ref f5) = true)
    (a6 : PySem.W.nsIn K mainGlobals "_law_any" = some (some (.ref f6))) (l6 : K.lookup f6 = some ⟨oc6, od6, .func (PySem.W.fnOf "_law_any" "_law_any" (defArgs s_f_law_any) (defBody s_f_law_any) (defScope s_f_law_any) .none kV6 dc6 pm6 an6 cd6 ct6), sl6⟩) (c6 : PySem.W.codeIn K cd6 "_law_any" = true) (k6 : PySem.W.keepIn K (.ref f6) = true)
    (a7 : PySem.W.nsIn K mainGlobals "law" = some (some (.ref f7))) (l7 : K.lookup f7 = some ⟨oc7, od7, .func (PySem.W.fnOf "law" "law" (defArgs s_f_law) (defBody s_f_law) (defScope s_f_law) .none kV7 dc7 pm7 an7 cd7 ct7), sl7⟩) (c7 : PySem.W.codeIn K cd7 "law" = true) (k7 : PySem.W.keepIn K (.ref f7) = true)
    (z_len : PySem.W.nsIn K mainGlobals "len" = some none)
    (z_int : PySem.W.nsIn K mainGlobals "int" = some none)
    (z_str : PySem.W.nsIn K mainGlobals "str" = some none)
    (z_enumerate : PySem.W.nsIn K mainGlobals "enumerate" = some none)
    (z_max : PySem.W.nsIn K mainGlobals "max" = some none)
    (z_range : PySem.W.nsIn K mainGlobals "range" = some none)
    (z_min : PySem.W.nsIn K mainGlobals "min" = some none)
    (z_isinstance : PySem.W.nsIn K mainGlobals "isinstance" = some none)
    (z_bool : PySem.W.nsIn K mainGlobals "bool" = some none)
    (z_nd : NoDig K)
    : ∃ fd : FuncData, (∀ (s : Shared) (v : Value), BindsTo s fd ⟨[v], []⟩ [("script", v)]) ∧ ∀ base : Heap, K.In base → base.Ns mainGlobals mg → FnOk l.prog w K mg base CX0 4 fa fd ["script"] (sp_f_law K) := by
  have e := hfa.symm.trans (PySem.W.mg_of X G a7)
  cases e
  have m_len : mg "len" = none := PySem.W.mg_none_of X G z_len
  have m_int : mg "int" = none := PySem.W.mg_none_of X G z_int
  have m_str : mg "str" = none := PySem.W.mg_none_of X G z_str
  have m_enumerate : mg "enumerate" = none := PySem.W.mg_none_of X G z_enumerate
  have m_max : mg "max" = none := PySem.W.mg_none_of X G z_max
  have m_range : mg "range" = none := PySem.W.mg_none_of X G z_range
  have m_min : mg "min" = none := PySem.W.mg_none_of X G z_min
  have m_isinstance : mg "isinstance" = none := PySem.W.mg_none_of X G z_isinstance
  have m_bool : mg "bool" = none := PySem.W.mg_none_of X G z_bool
  have F0 := fun_mk (st := s_f_law_box) l0 c0 k0
  have F1 := fun_mk (st := s_f_law_text) l1 c1 k1
  have F2 := fun_mk (st := s_f_bits_of) l2 c2 k2
  have F3 := fun_mk (st := s_f_of_bits) l3 c3 k3
  have F4 := fun_mk (st := s_f_law_take) l4 c4 k4
  have F5 := fun_mk (st := s_f_law_number) l5 c5 k5
  have F6 := fun_mk (st := s_f_law_any) l6 c6 k6
  have F7 := fun_mk (st := s_f_law) l7 c7 k7
  refine ⟨PySem.W.fnOf "law" "law" (defArgs s_f_law) (defBody s_f_law) (defScope s_f_law) .none kV7 dc7 pm7 an7 cd7 ct7, fun s v => .of_eq rfl, fun base _ _ => ?_⟩
  have O0 : FnOk l.prog w K mg base CX0 1 f0 _ ["script", "k"] (sp_f_law_box K) := ok_f_law_box F0 m_len m_int
  have D_f_law_box : Def l.prog w K mg base CX0 "_law_box" 1 ["script", "k"] (sp_f_law_box K) := ⟨f0, _, PySem.W.mg_of X G a0, O0, k0, F0.binds (ps := ["script", "k"]) fun _ _ _ _ _ _ us hl => match us, hl with | [_, _], _ => rfl⟩
  have O1 : FnOk l.prog w K mg base CX0 1 f1 _ ["number"] (sp_f_law_text K) := ok_f_law_text F1
  have D_f_law_text : Def l.prog w K mg base CX0 "_law_text" 1 ["number"] (sp_f_law_text K) := ⟨f1, _, PySem.W.mg_of X G a1, O1, k1, F1.binds (ps := ["number"]) fun _ _ _ _ _ _ us hl => match us, hl with | [_], _ => rfl⟩
  have O2 : FnOk l.prog w K mg base CX0 1 f2 _ ["number"] (sp_f_bits_of K) := ok_f_bits_of F2 m_str
  have D_f_bits_of : Def l.prog w K mg base CX0 "bits_of" 1 ["number"] (sp_f_bits_of K) := ⟨f2, _, PySem.W.mg_of X G a2, O2, k2, F2.binds (ps := ["number"]) fun _ _ _ _ _ _ us hl => match us, hl with | [_], _ => rfl⟩
  have O3 : FnOk l.prog w K mg base CX0 1 f3 _ ["text"] (sp_f_of_bits K) := ok_f_of_bits F3 m_enumerate m_int z_nd
  have D_f_of_bits : Def l.prog w K mg base CX0 "of_bits" 1 ["text"] (sp_f_of_bits K) := ⟨f3, _, PySem.W.mg_of X G a3, O3, k3, F3.binds (ps := ["text"]) fun _ _ _ _ _ _ us hl => match us, hl with | [_], _ => rfl⟩
  have O4 : FnOk l.prog w K mg base CX0 1 f4 _ ["box", "wide"] (sp_f_law_take K) := ok_f_law_take F4
  have D_f_law_take : Def l.prog w K mg base CX0 "_law_take" 1 ["box", "wide"] (sp_f_law_take K) := ⟨f4, _, PySem.W.mg_of X G a4, O4, k4, F4.binds (ps := ["box", "wide"]) fun _ _ _ _ _ _ us hl => match us, hl with | [_, _], _ => rfl⟩
  have O5 : FnOk l.prog w K mg base CX0 2 f5 _ ["box"] (sp_f_law_number K) := ok_f_law_number F5 D_f_law_take m_int z_nd
  have D_f_law_number : Def l.prog w K mg base CX0 "_law_number" 2 ["box"] (sp_f_law_number K) := ⟨f5, _, PySem.W.mg_of X G a5, O5, k5, F5.binds (ps := ["box"]) fun _ _ _ _ _ _ us hl => match us, hl with | [_], _ => rfl⟩
  have O6 : FnOk l.prog w K mg base CX0 3 f6 _ ["box"] (sp_f_law_any K) := ok_f_law_any F6 D_f_law_take D_f_law_number m_max
  have D_f_law_any : Def l.prog w K mg base CX0 "_law_any" 3 ["box"] (sp_f_law_any K) := ⟨f6, _, PySem.W.mg_of X G a6, O6, k6, F6.binds (ps := ["box"]) fun _ _ _ _ _ _ us hl => match us, hl with | [_], _ => rfl⟩
  exact ok_f_law F7 D_f_law_box D_f_law_text D_f_bits_of D_f_of_bits D_f_law_any D_f_law_take m_range m_max m_min m_len m_isinstance m_str m_bool m_int
end Rs
open PySem PySem.W PyProof.Rows
set_option maxHeartbeats 0 in
theorem PySem.Challenge.cw_runsums_k18_bits_written_and_read_holds : PySem.Challenge.rw_runsums_k18_bits_written_and_read.Holds := by
  w_on; o_law; k_head; (case hw => w_witness2)
  k_fill
  refine L2.walk_of (l := PySem.Challenge.rw_runsums_k18_bits_written_and_read) (n := 63) (k := 4) (x := "script") (CX := fun _ => L2.CX0) (sp := fun w => Rs.sp_f_law _) rfl (by decide) rfl ⟨rfl, by decide, by decide⟩ (fun w h Y => PySem.W.kIn_of Y) ?F (fun _ _ a ns hl hO hS => ⟨a, ns, rfl, Rs.SqF.of hO hS, hl, fun _ => rfl⟩) (fun _ _ _ _ _ h => h)
  case F =>
    intro w mg fa h KX G hmg
    refine' Rs.all_mk KX G hmg ?a0 ?l0 ?c0 ?k0 ?a1 ?l1 ?c1 ?k1 ?a2 ?l2 ?c2 ?k2 ?a3 ?l3 ?c3 ?k3 ?a4 ?l4 ?c4 ?k4 ?a5 ?l5 ?c5 ?k5 ?a6 ?l6 ?c6 ?k6 ?a7 ?l7 ?c7 ?k7 ?z_len ?z_int ?z_str ?z_enumerate ?z_max ?z_range ?z_min ?z_isinstance ?z_bool ?z_nd
    (case a0 => k_is)
    (case l0 => k_is)
    (case c0 => k_is)
    (case k0 => k_is)
    (case a1 => k_is)
    (case l1 => k_is)
    (case c1 => k_is)
    (case k1 => k_is)
    (case a2 => k_is)
    (case l2 => k_is)
    (case c2 => k_is)
    (case k2 => k_is)
    (case a3 => k_is)
    (case l3 => k_is)
    (case c3 => k_is)
    (case k3 => k_is)
    (case a4 => k_is)
    (case l4 => k_is)
    (case c4 => k_is)
    (case k4 => k_is)
    (case a5 => k_is)
    (case l5 => k_is)
    (case c5 => k_is)
    (case k5 => k_is)
    (case a6 => k_is)
    (case l6 => k_is)
    (case c6 => k_is)
    (case k6 => k_is)
    (case a7 => k_is)
    (case l7 => k_is)
    (case c7 => k_is)
    (case k7 => k_is)
    (case z_len => k_is)
    (case z_int => k_is)
    (case z_str => k_is)
    (case z_enumerate => k_is)
    (case z_max => k_is)
    (case z_range => k_is)
    (case z_min => k_is)
    (case z_isinstance => k_is)
    (case z_bool => k_is)
    (case z_nd => (unfold Rs.NoDig; k_is))
