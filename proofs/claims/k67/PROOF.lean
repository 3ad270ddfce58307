import PyProof.Rows.All
import Wide.All
import OpenK.AllK
import Wide.FinOn
import HandS.ForMost
import HandS.ForExc
import HandS.Flow
import HandS.Style
import HandS.Wide
import HandS.WideMore
import HandS.WideBits
import HandS.IsInst
import HandS.Rev
import HandS.Walk
import HandS.IntHex
import HandS.SortKw
import KE.GoesEnumKw
import HandS.Zip
import KE.GoesMore
import HandS.More
import HandS.DictComp
import HandS.ListItems
import HandS.TupAny
import HandS.Defaults
import PyProof.P3Eq
import PySem.Challenge.RW_runsums_k67_names_given_way
set_option Elab.async false
set_option linter.all false
set_option maxRecDepth 100000
set_option maxHeartbeats 4000000
set_option exponentiation.threshold 20000

namespace Rs
open PySem L2 PyProof.Rows
abbrev Sm := L2.Same
/-! ### rules side by side -/
section
variable {X : Cx}
theorem op_or {f : Value → Value → Sem Value} {r r' : R2} (h : OpR X f r) (h' : OpR X f r') : OpR X f (fun x y H Q => r x y H Q ∨ r' x y H Q) := by
  intro pins s σ H x y v u Q I rx ry q
  rcases q with q | q
  · exact h pins s σ H x y v u Q I rx ry q
  · exact h' pins s σ H x y v u Q I rx ry q
theorem cr_or {f : Value} {r r' : List V → Hp → VK → Prop} (h : CallR X f r) (h' : CallR X f r') : CallR X f (fun xs H Q => r xs H Q ∨ r' xs H Q) := by
  intro pins s σ H xs us Q I rx q
  rcases q with q | q
  · exact h pins s σ H xs us Q I rx q
  · exact h' pins s σ H xs us Q I rx q
def gAdd (K : PySem.W.Frag) : R2 := fun x y H Q => rI0 (fun i j => .int (i + j)) x y H Q ∨ ((∃ i j, x = .str i ∧ y = .str j ∧ i.length + j.length ≤ sizeLine ∧ Q (.str (i ++ j)) H) ∨ (rCat x y H Q ∨ rCatA K x y H Q))
theorem op_gAdd {K : PySem.W.Frag} (hK : X.K = K) : OpR X (binaryOp .Add) (gAdd K) := by subst hK; exact op_or op_add (op_or op_add_str (op_or op_cat op_catA))
def CM (i j : Int) : Prop := CMul i j ∨ CMulX i j
def gMul : R2 := fun x y H Q => rI CMul (fun i j => .int (i * j)) x y H Q ∨ (rI CMulX (fun i j => .int (i * j)) x y H Q ∨ rRep x y H Q)
theorem op_gMul : OpR X (binaryOp .Mult) gMul := op_or op_mul (op_or op_mulX op_rep)
def gMulS : R2 := fun x y H Q => ∃ a n, x = .str a ∧ y = .int n ∧ MulOk a n ∧ Q (.str (Txt.mul a n)) H
theorem op_gMulS : OpR X (binaryOp .Mult) gMulS := by
  intro pins s σ H x y u v Q I rx ry h
  obtain ⟨a, n, rfl, rfl, hok, q⟩ := h
  obtain ⟨t, rfl⟩ := rx
  obtain ⟨t', rfl⟩ := ry
  exact SB.mul hok fun t' k => ⟨.str _, H, I.tok _, ⟨_, rfl⟩, q⟩
def gDiv : R2 := fun x y H Q => rI CDivW (fun i j => .int (i / j)) x y H Q
theorem op_gDiv : OpR X (binaryOp .FloorDiv) gDiv := op_fdivW
def gMod : R2 := rI (fun _ j => 0 < j) fun i j => .int (i % j)
theorem op_gMod : OpR X (binaryOp .Mod) gMod := op_mod
def gShl : R2 := rI CShl fun i j => .int (i * 2 ^ j.toNat)
theorem op_gShl : OpR X (binaryOp .LShift) gShl := op_shlW
def gPow : R2 := rI CPow fun i j => .int (i ^ j.toNat)
theorem op_gPow : OpR X (binaryOp .Pow) gPow := op_pow
def gShr : R2 := rI (fun _ j => 0 ≤ j) fun i j => .int (i / 2 ^ j.toNat)
theorem op_gShr : OpR X (binaryOp .RShift) gShr := op_shr
def gAnd : R2 := rI0 fun i j => .int (Builtin.bitAnd i j)
theorem op_gAnd : OpR X (binaryOp .BitAnd) gAnd := op_and
def gLt : R2 := rI0 fun i j => .bl (decide (i < j))
theorem op_gLt : OpR X (compareOp .Lt) gLt := op_lt
def gLe : R2 := rI0 fun i j => .bl (decide (i ≤ j))
theorem op_gLe : OpR X (compareOp .LtE) gLe := op_le
def gGt : R2 := rI0 fun i j => .bl (decide (j < i))
theorem op_gGt : OpR X (compareOp .Gt) gGt := op_gt
def gGe : R2 := rI0 fun i j => .bl (decide (j ≤ i))
theorem op_gGe : OpR X (compareOp .GtE) gGe := op_ge
def gEq (K : PySem.W.Frag) : R2 := fun x y H Q => rEq x y H Q ∨ rEqD K x y H Q
theorem op_gEq {K : PySem.W.Frag} (hK : X.K = K) (hu : X.A.units + 64 < cLine) : OpR X (compareOp .Eq) (gEq K) := by subst hK; exact op_or op_eq (op_eqD hu)
def gNe (K : PySem.W.Frag) : R2 := fun x y H Q => rNe x y H Q ∨ rNeD K x y H Q
theorem op_gNe {K : PySem.W.Frag} (hK : X.K = K) (hu : X.A.units + 64 < cLine) : OpR X (compareOp .NotEq) (gNe K) := by subst hK; exact op_or op_ne (op_neD hu)
def gLen (K : PySem.W.Frag) : List V → Hp → VK → Prop := fun xs H Q => (∃ p ys, xs = [.ref p] ∧ (SqL K H p ys ∨ SqT K H p ys) ∧ Q (.int ys.length) H) ∨ (∃ z, xs = [.str z] ∧ z.length ≤ sizeLine ∧ Q (.int z.length) H)
theorem call_gLen {K : PySem.W.Frag} (hK : X.K = K) : CallR X (.builtin "len") (gLen K) := by subst hK; exact cr_or call_len_seq call_len_str
theorem call_gIsi {K : PySem.W.Frag} (hK : X.K = K) : CallR X (.builtin "isinstance") (rIsi K) := by subst hK; exact call_isi
theorem ix_g {K : PySem.W.Frag} (hK : X.K = K) : IxR X (rIx K) := by subst hK; exact ix_seq
def gSl (K : PySem.W.Frag) : V → Option Int → Option Int → Hp → VK → Prop := fun x lo hi H Q => rSlL K x lo hi H Q ∨ rSlA K x lo hi H Q
theorem sl_gl {K : PySem.W.Frag} (hK : X.K = K) : SlR X (gSl K) := by subst hK; exact SlR.or sl_list sl_tupA
theorem sl_gt {K : PySem.W.Frag} (hK : X.K = K) : SlR X (rSlT K) := by subst hK; exact sl_tup
theorem pi_gl {K : PySem.W.Frag} (hK : X.K = K) {tg l : Expr} {tl : TE} (hl : PE X l tl) : PI X tg l (iList K tl) := by subst hK; exact pi_list hl
theorem pi_gt {K : PySem.W.Frag} (hK : X.K = K) {tg l : Expr} {tl : TE} (hl : PE X l tl) : PI X tg l (iTup K tl) := by subst hK; exact pi_tup hl
theorem op_gInSeq {K : PySem.W.Frag} (hK : X.K = K) : OpR X (compareOp .In) (rIn K false) := by subst hK; exact op_in_seq
theorem op_gNotInSeq {K : PySem.W.Frag} (hK : X.K = K) : OpR X (compareOp .NotIn) (rIn K true) := by subst hK; exact op_notIn_seq
def gTup2 (K : PySem.W.Frag) (n : Nat) (t : TGs) : TG := gTup K n t
theorem pg_gt {K : PySem.W.Frag} (hK : X.K = K) {es : List Expr} {k : Nat} {pos : Pos} {t : TGs} {n : Nat} (hc : X.calm = true) (h : PGs X es t) (hl : (assignEach es X.env).length = n := by rfl) (hst : (assignEach es X.env).findIdx? (·.1) = none := by rfl) :
    PG X (.Tuple es k pos) (gTup2 K n t) := by subst hK; exact pg_tup hc h hl hst
theorem pe_gbm {K : PySem.W.Frag} (hK : X.K = K) {o e : Expr} {es : List Expr} {to : TE} {t : TA} {name : Str} {apos cpos : Pos} {T id : String} {r : V → List V → Hp → VK → Prop} (pa : PlainAttrs T) (slot : Slot T name id) (hty : typeOf (.builtin id) = pure (.type "method_descriptor")) (hm : MtR X id r) (ho : PE X o to) (ha : PA X (e :: es) t)
    (hbase : attributeBase o name X.env (eval o X.env) = eval o X.env := by rfl)
    (hfew : ((backTo cpos (starEach (e :: es) X.env)).all (fun x => !x.1) && (backToKw cpos (keywordEach [] X.env)).all (fun x => x.1.isSome)
      && decide ((e :: es).length + ([] : List Keyword).length + (if ([] : List Keyword).isEmpty then 0 else 1) < 30)) = true := by rfl)
    (hline : (apos.endLine == cpos.line) = true := by rfl) (hs : starEach (e :: es) X.env = (false, eval e X.env) :: starEach es X.env := by rfl) (hplain : (backTo cpos (starEach es X.env)).any (·.1) = false := by rfl) :
    PE X (.Call (.Attribute o name apos) (e :: es) [] cpos) (tBM K T r to t) := by subst hK; exact pe_bm pa slot hty hm ho ha hbase hfew hline hs hplain
theorem pe_gbm0 {K : PySem.W.Frag} (hK : X.K = K) {o : Expr} {to : TE} {name : Str} {apos cpos : Pos} {T id : String} {r : V → List V → Hp → VK → Prop} (pa : PlainAttrs T) (slot : Slot T name id) (hty : typeOf (.builtin id) = pure (.type "method_descriptor")) (hm : MtR X id r) (ho : PE X o to)
    (hbase : attributeBase o name X.env (eval o X.env) = eval o X.env := by rfl) (hline : (apos.endLine == cpos.line) = true := by rfl) : PE X (.Call (.Attribute o name apos) [] [] cpos) (tBM0 K T r to) := by subst hK; exact pe_bm0 pa slot hty hm ho hbase hline
def gTpl (K : PySem.W.Frag) : List V → Hp → VK → Prop := (fun xs H Q => ∃ p ys, xs = [.ref p] ∧ ((SqL K H p ys ∧ ∀ l, H l = none → Q (.ref l) (upd H l (.tup ys))) ∨ (SqT K H p ys ∧ Q (.ref p) H)))
def gLst (K : PySem.W.Frag) : List V → Hp → VK → Prop := (fun xs H Q => ∃ p ys, xs = [.ref p] ∧ (SqL K H p ys ∨ SqT K H p ys) ∧ ∀ l, H l = none → Q (.ref l) (upd H l (.lst ys)))
theorem call_gTuple {K : PySem.W.Frag} (hK : X.K = K) : CallR X (.type "tuple") (gTpl K) := by subst hK; exact call_tuple_of
theorem call_gList {K : PySem.W.Frag} (hK : X.K = K) : CallR X (.type "list") (gLst K) := by subst hK; exact call_list_of
theorem iop_mulX : OpR X (inplaceOp .Mult) (rI CMulX fun i j => .int (i * j)) := opI fun _ _ _ _ _ _ _ hc q => imul_int q hc.ok
def gIAdd : R2 := fun x y H Q => rI0 (fun i j => .int (i + j)) x y H Q ∨ (∃ i j, x = .str i ∧ y = .str j ∧ i.length + j.length ≤ sizeLine ∧ Q (.str (i ++ j)) H)
def gIMul : R2 := fun x y H Q => rI CMul (fun i j => .int (i * j)) x y H Q ∨ rI CMulX (fun i j => .int (i * j)) x y H Q
def gXor : R2 := rI0 fun i j => .int (Builtin.bitXor i j)
theorem ip_gAdd : PIp X .Add gIAdd := op_or iop_add iop_add_str
theorem ip_gMul : PIp X .Mult gIMul := op_or iop_mul iop_mulX
theorem ip_gDiv : PIp X .FloorDiv gDiv := iop_fdivW
theorem ip_gShr : PIp X .RShift gShr := iop_shr
theorem ip_gShl : PIp X .LShift gShl := iop_shlW
theorem op_gXor {X : Cx} : OpR X (binaryOp .BitXor) gXor := op_xor
theorem ip_gXor : PIp X .BitXor gXor := iop_xor
theorem ip_gAnd : PIp X .BitAnd gAnd := iop_and
theorem ip_gSub : PIp X .Sub (rI0 fun i j => .int (i - j)) := iop_sub
def gIntC : List V → Hp → VK → Prop := fun xs H Q => (∃ i, xs = [.int i] ∧ Q (.int i) H) ∨ ∃ k, xs = [.bl k] ∧ Q (.int (if k then 1 else 0)) H
theorem call_gInt : CallR X (.type "int") gIntC := call_int1
def gMax : List V → Hp → VK → Prop := fun xs H Q => ∃ i j, xs = [.int i, .int j] ∧ Q (.int (if j > i then j else i)) H
theorem call_gMax (hc : X.calm = true) : CallR X (.builtin "max") gMax := call_max2 hc
def gMin : List V → Hp → VK → Prop := fun xs H Q => ∃ i j, xs = [.int i, .int j] ∧ Q (.int (if j < i then j else i)) H
theorem call_gMin (hc : X.calm = true) : CallR X (.builtin "min") gMin := call_min2 hc
end
/-! ### a def's promise where nothing is being shown (no repr under way) -/
structure RoomG (k : Nat) (A : Around) : Prop where
  rm : Room k A
  gd : A.guards = some []
  un : A.units + 16 * k + 6000 < cLine
theorem RoomG.mono {j k : Nat} {A : Around} (r : RoomG k A) (h : j ≤ k) : RoomG j A := ⟨r.rm.mono h, r.gd, by have := r.un; omega⟩
theorem RoomG.units {k : Nat} {A : Around} (r : RoomG k A) : A.units + 64 < cLine := r.rm.units
theorem RoomG.big {k : Nat} {A : Around} (r : RoomG k A) : A.units + 5000 < cLine := by have := r.un; omega
theorem RoomG.down {k : Nat} {A : Around} (r : RoomG (k + 1) A) (v : Env) : RoomG k (A.deeper v) := ⟨r.rm.deeper v, r.gd, by have := r.un; show A.units + 3 + 16 * k + 6000 < _; omega⟩
theorem RoomG.in1 {k : Nat} {A : Around} (r : RoomG (k + 1) A) : RoomG k A.in1 := ⟨r.rm.in1, r.gd, by have := r.un; show A.units + 1 + 16 * k + 6000 < _; omega⟩
structure FnG (P : Program) (w : World) (K : PySem.W.Frag) (mg : Str → Option Value) (base : Heap) (CX : CXT) (k : Nat) (f : Addr) (fd : FuncData) (ps : List Str) (sp : Sp) : Prop where
  ln : ∀ vs H Q E, sp vs H Q E → vs.length = ps.length
  go : ∀ (A : Around) (ou : List Env) (z : Shared) (H : Hp) (ar : Args) (us : List Value) (vs : List V) (Q : VK) (E : XK), RoomG k A → Env0 P w K mg base A ou z H → BindsTo z fd ar (ps.zip us) → Vals vs us → sp vs H Q E →
    codeAny (model P w) A (.call (.ref f) ar) (CR CX ou P w H z Q E) z
theorem FnG.of {P : Program} {w : World} {K : PySem.W.Frag} {mg : Str → Option Value} {base : Heap} {CX : CXT} {k : Nat} {f : Addr} {fd : FuncData} {ps : List Str} {sp : Sp} (F : FnOk P w K mg base CX k f fd ps sp) : FnG P w K mg base CX k f fd ps sp :=
  ⟨F.len, fun A ou z H ar us vs Q E hr => F.run A ou z H ar us vs Q E hr.rm⟩
/-- a call's end is what the caller wants -/
theorem aft {X : Cx} {CX : CXT} {pins : List (Addr × Obj)} {σ : L2.St} {H : Hp} {s : Shared} {Q : VK} {E : XK} (hx : Passes CX X E) (I : Inv X pins σ H s) {r : Result} {z : Shared} (h : CR CX X.stack X.prog X.w H s Q E r z) :
    callEnd (EP X pins σ Q) X.xe r z := by
  cases r with
  | error e => exact hx pins σ H s e z I h
  | ok fl => cases fl with
    | ret u => exact I.after h
    | next => exact h.elim
    | brk => exact h.elim
    | cont => exact h.elim
theorem run_g {X : Cx} {CX : CXT} {k : Nat} {f : Addr} {fd : FuncData} {ps : List Str} {sp : Sp} {E : XK} {pins : List (Addr × Obj)} {σ : L2.St} {H : Hp} {s : Shared} {Q : VK} {us : List Value} {vs : List V}
    (F : FnG X.prog X.w X.K X.mg X.base CX k f fd ps sp) (hr : RoomG k X.A) (hb : Binds X.K fd ps []) (hx : Passes CX X E) (I : Inv X pins σ H s) (r : Vals vs us) (h : sp (vs ++ []) H Q E) : wpAny (model X.prog X.w) X.A (call (.ref f) us) (EP X pins σ Q) X.xe s := by
  have q := r.append (show Vals [] [] from .nil)
  exact wpAny_call (codeAny_mono (F.go X.A X.stack s H ⟨us, []⟩ (us ++ []) (vs ++ []) Q E hr I.env0 (hb s us I.kIn (q.length.symm.trans (F.ln _ _ _ _ h))) q h) fun _ _ y => aft hx I y)
theorem run_gk {X : Cx} {CX : CXT} {k : Nat} {f : Addr} {fd : FuncData} {ps ks : List Str} {sp : Sp} {g : List Value → List Value → List Value} {gV : List V → List V → List V} {E : XK} {pins : List (Addr × Obj)} {σ : L2.St} {H : Hp} {s : Shared} {Q : VK} {us ws : List Value} {vs zs : List V}
    (F : FnG X.prog X.w X.K X.mg X.base CX k f fd ps sp) (hr : RoomG k X.A) (hb : KBinds X.K fd ps ks g gV) (hx : Passes CX X E) (I : Inv X pins σ H s) (r : Vals vs us) (rz : Vals zs ws) (h : sp (gV vs zs) H Q E) :
    wpAny (model X.prog X.w) X.A (call (.ref f) us (ks.zip ws)) (EP X pins σ Q) X.xe s := by
  have q := hb.rel r rz
  exact wpAny_call (codeAny_mono (F.go X.A X.stack s H ⟨us, ks.zip ws⟩ (g us ws) (gV vs zs) Q E hr I.env0 (hb.to s us ws I.kIn (q.length.symm.trans (F.ln _ _ _ _ h))) q h) fun _ _ y => aft hx I y)
theorem fn_g {CX : CXT} {P : Program} {w : World} {K : PySem.W.Frag} {mg : Str → Option Value} {base : Heap} {k : Nat} {f : Addr} {nm qu : Str} {pr : Arguments} {bd : List Stmt} {sc : Scope} {dV kV dc pm cd ct oc : Value} {an od : Option Addr} {sl : Array (Option Value)} {N ps : List Str} {sp : Sp}
    (lk : K.lookup f = some ⟨oc, od, .func (PySem.W.fnOf nm qu pr bd sc dV kV dc pm an cd ct), sl⟩) (hc : PySem.W.codeIn K cd qu = true) (S : FnScope N ps sc) (ln : ∀ vs H Q E, sp vs H Q E → vs.length = ps.length)
    (hb : ∀ (A : Around) (ou : List Env) (z : Shared) (H : Hp) (vs : List V) (Q : VK) (E : XK), RoomG k (A.deeper (envOfC qu sc z.heap.objs.size f cd)) → sp vs H Q E → ∃ t, PSs (cxOf CX P w K mg base N qu sc f cd A ou z H E) bd t ∧ t { nx := fun _ H' => Q .non H', rt := Q } (start N vs) H) :
    FnG P w K mg base CX (k + 1) f (PySem.W.fnOf nm qu pr bd sc dV kV dc pm an cd ct) ps sp := by
  refine ⟨ln, fun A ou z H ar us vs Q E hr e0 bt r hs => ?_⟩
  have hl := ln _ _ _ _ hs
  have old : ∀ b o, base.get? b = some o → z.heap.get? b = some o := fun b o e => (e0.bs b o e).1
  have kz := e0.mod.kin.keeps old
  have lim := e0.mod.nolimit.keeps old
  have hk : ∀ y ∈ ps.zip us, sc.names.lookup y.1 = some .local ∨ (sc.names.lookup y.1 = some .cell ∧ ((cellsFrom (z.heap.objs.size + 1) sc.names []).lookup y.1).isSome = true) := by
    intro y hy
    rcases S.par y.1 (List.of_mem_zip hy).1 with q | q
    · exact .inl q
    · exact .inr ⟨q, PySem.W.cellsFrom_some _ _ _ (.inl q)⟩
  refine codeAny_call_function hr.rm.depth (kz _ _ lk) rfl S.co S.gen rfl (PySem.W.codeRec_of kz hc) (bt _ _ _ _ (wpAny_newFunctionEnv_cells S.kind hk fun v hv z1 x => ?_))
  subst hv
  refine ⟨lim.keeps x.toInCall.keep, codeAny_func ?_⟩
  obtain ⟨t, ht, hq⟩ := hb A ou z H vs Q E (hr.down _) hs
  refine wpAny_mono (ht.run [] z1 (start N vs) H _ (inv_start S hr.rm.hd e0 hl r x) hq) (fun fl z2 y => ?_) fun _ _ y => y
  cases fl with
  | ret u =>
    obtain ⟨v, σ', H', J, rv, q⟩ := y
    exact ⟨v, H', J.os, J.bare, J.base, J.hok, rv, q⟩
  | next =>
    obtain ⟨σ', H', J, q⟩ := y
    exact ⟨V.non, H', J.os, J.bare, J.base, J.hok, rfl, q⟩
  | brk => exact y.elim fun _ y => y.elim fun _ y => y.2.elim
  | cont => exact y.elim fun _ y => y.elim fun _ y => y.2.elim
theorem okG {CX : CXT} {P : Program} {w : World} {K : PySem.W.Frag} {mg : Str → Option Value} {base : Heap} {x qu : Str} {st : Stmt} {f : Addr} {fd : FuncData} {N ps : List Str} {k : Nat} {sp : Sp} (F : Fun K x qu st f fd) (S : FnScope N ps (defScope st)) (ln : ∀ vs H Q E, sp vs H Q E → vs.length = ps.length)
    (hb : ∀ (cd : Value) (A : Around) (ou : List Env) (z : Shared) (H : Hp) (vs : List V) (Q : VK) (E : XK), RoomG k (A.deeper (envOfC qu (defScope st) z.heap.objs.size f cd)) → sp vs H Q E →
      ∃ t, PSs (cxOf CX P w K mg base N qu (defScope st) f cd A ou z H E).nox (defBody st) t ∧ t { nx := fun _ H' => Q .non H', rt := Q } (start N vs) H) : FnG P w K mg base CX (k + 1) f fd ps sp := by
  obtain ⟨oc, od, kV, dc, pm, an, cd, ct, sl, rfl, lk, hc⟩ := F.ex
  refine fn_g lk hc S ln fun A ou z H vs Q E hr hs => ?_
  obtain ⟨t, h, q⟩ := hb cd A ou z H vs Q E hr hs
  exact ⟨t, h.nox, q⟩
/-- the same for a def with defaults -/
theorem okD {CX : CXT} {P : Program} {w : World} {K : PySem.W.Frag} {mg : Str → Option Value} {base : Heap} {x qu : Str} {st : Stmt} {dvs : List V} {f : Addr} {fd : FuncData} {N ps : List Str} {k : Nat} {sp : Sp} (F : FunD K x qu (defArgs st) (defBody st) (defScope st) dvs [] f fd) (S : FnScope N ps (defScope st)) (ln : ∀ vs H Q E, sp vs H Q E → vs.length = ps.length)
    (hb : ∀ (cd : Value) (A : Around) (ou : List Env) (z : Shared) (H : Hp) (vs : List V) (Q : VK) (E : XK), RoomG k (A.deeper (envOfC qu (defScope st) z.heap.objs.size f cd)) → sp vs H Q E →
      ∃ t, PSs (cxOf CX P w K mg base N qu (defScope st) f cd A ou z H E).nox (defBody st) t ∧ t { nx := fun _ H' => Q .non H', rt := Q } (start N vs) H) : FnG P w K mg base CX (k + 1) f fd ps sp := by
  obtain ⟨oc, od, dV, kV, dc, pm, an, cd, ct, sl, rfl, lk, hc, _, _⟩ := F.ex
  refine fn_g lk hc S ln fun A ou z H vs Q E hr hs => ?_
  obtain ⟨t, h, q⟩ := hb cd A ou z H vs Q E hr hs
  exact ⟨t, h.nox, q⟩
theorem fund_mk {K : PySem.W.Frag} {x qual : Str} {st : Stmt} {dvs : List V} {f T : Addr} {oc tc : Value} {od an td : Option Addr} {osl ts : Array (Option Value)} {kV doc pm cdv ct : Value} {ti : Array Value} {tn : Nat} (l : K.lookup f = some ⟨oc, od, .func (PySem.W.fnOf x qual (defArgs st) (defBody st) (defScope st) (.ref T) kV doc pm an cdv ct), osl⟩)
    (c : PySem.W.codeIn K cdv qual = true) (k : PySem.W.keepIn K (.ref f) = true) (lt : K.lookup T = some ⟨tc, td, .seq ti tn, ts⟩) (hv : Vals dvs ti.toList) (hd : dvs ≠ []) :
    FunD K x qual (defArgs st) (defBody st) (defScope st) dvs [] f (PySem.W.fnOf x qual (defArgs st) (defBody st) (defScope st) (.ref T) kV doc pm an cdv ct) :=
  ⟨⟨oc, od, .ref T, kV, doc, pm, an, cdv, ct, osl, rfl, l, c, .inr ⟨hd, T, _, ti.toList, tn, rfl, lt, by rw [Array.toArray_toList], hv⟩, .inl rfl⟩, k⟩
theorem kb_dfl {K : PySem.W.Frag} {x qual : Str} {params : Arguments} {body : List Stmt} {scope : Scope} {dvs : List V} {f : Addr} {fd : FuncData} {ps ks : List Str} (F : FunD K x qual params body scope dvs [] f fd) (hd : dvs ≠ []) (g : {α : Type} → List α → List α → List α → List α)
    (hrel : ∀ {vs zs : List V} {us ws its : List Value}, Vals vs us → Vals zs ws → Vals dvs its → Vals (g dvs vs zs) (g its us ws))
    (h : ∀ (T : Addr) (kV doc pm : Value) (an : Option Addr) (cdv ct : Value) (us ws its : List Value), its.length = dvs.length → (g its us ws).length = ps.length →
      ∃ k, bindArgs (PySem.W.fnOf x qual params body scope (.ref T) kV doc pm an cdv ct) ⟨us, ks.zip ws⟩ = seqItems? (.ref T) >>= k ∧ k (some its.toArray) = pure (ps.zip (g its us ws))) : ∃ g', KBinds K fd ps ks g' (fun vs zs => g dvs vs zs) := by
  obtain ⟨oc, od, dV, kV, doc, pm, an, cdv, ct, osl, rfl, lk, hcd, hD, hK⟩ := F.ex
  rcases hD with ⟨e, _⟩ | ⟨_, T, o, its, m, rfl, lT, oT, rT⟩
  · exact absurd e hd
  · refine ⟨fun us ws => g its us ws, fun s us ws X hl => ?_, fun r1 r2 => hrel r1 r2 rT⟩
    obtain ⟨k, e1, e2⟩ := h T kV doc pm an cdv ct us ws its rT.length.symm hl
    refine BindsTo.of_looks fun M => ?_
    rw [e1]
    exact looks_items X lT oT (.of_pure e2)
/-! ### a def by its name -/
structure Def (P : Program) (w : World) (K : PySem.W.Frag) (mg : Str → Option Value) (base : Heap) (CX : CXT) (name : Str) (k : Nat) (ps : List Str) (sp : Sp) : Prop where
  ex : ∃ f fd, mg name = some (.ref f) ∧ FnG P w K mg base CX k f fd ps sp ∧ PySem.W.keepIn K (.ref f) = true ∧ Binds K fd ps []
section
variable {X : Cx} {CX : CXT} {k : Nat} {ps : List Str} {sp : Sp} {x : Str} {p pos : Pos} {e : Expr} {es : List Expr} {t : TA} {E : XK}
theorem pe_f (G : Def X.prog X.w X.K X.mg X.base CX x k ps sp) (hr : RoomG k X.A) (hg : Gl X x) (hx : Passes CX X E) (ha : PA X (e :: es) t) (hdb : (x == ("__debug__" : Str)) = false := by decide)
    (he : starEach (e :: es) X.env = (false, eval e X.env) :: starEach es X.env := by rfl) (hpl : (backTo pos (starEach es X.env)).any (·.1) = false := by rfl) :
    PE X (.Call (.Name x p) (e :: es) [] pos) (tCall sp [] E t) := by
  obtain ⟨f, fd, m, F, kp, b⟩ := G.ex
  refine ⟨fun pins s σ H Q I h => wpAny_Call_Name_kw (ld_glob I hg m ?_ hdb)⟩
  exact PySem.W.callWith_K (h₀ := X.base) I.ok.mod.kin kp (thn (ha.run pos pins s σ H _ I h) fun us z ⟨vs, G, J, r, q⟩ => ⟨J.kIn, run_g F hr b hx J r q⟩) he hpl
theorem pe_f0 (G : Def X.prog X.w X.K X.mg X.base CX x k ps sp) (hr : RoomG k X.A) (hg : Gl X x) (hx : Passes CX X E) (hdb : (x == ("__debug__" : Str)) = false := by decide) :
    PE X (.Call (.Name x p) [] [] pos) (tCall sp [] E tNil) := by
  obtain ⟨f, fd, m, F, kp, b⟩ := G.ex
  refine ⟨fun pins s σ H Q I h => wpAny_Call_Name_kw (ld_glob I hg m ?_ hdb)⟩
  exact PySem.W.callWith_K0 I.kIn kp (run_g (us := []) F hr b hx I .nil h)
end
/-- a def called by its arguments' names -/
structure DefK (P : Program) (w : World) (K : PySem.W.Frag) (mg : Str → Option Value) (base : Heap) (CX : CXT) (name : Str) (k : Nat) (ps ks : List Str) (gV : List V → List V → List V) (sp : Sp) : Prop where
  ex : ∃ f fd g, mg name = some (.ref f) ∧ FnG P w K mg base CX k f fd ps sp ∧ PySem.W.keepIn K (.ref f) = true ∧ KBinds K fd ps ks g gV
section
variable {X : Cx} {CX : CXT} {k : Nat} {ps ks : List Str} {gV : List V → List V → List V} {sp : Sp} {x : Str} {p pos : Pos} {e : Expr} {es : List Expr} {kws : List Keyword} {t tk : TA} {E : XK}
theorem pe_fK0 (G : DefK X.prog X.w X.K X.mg X.base CX x k ps ks gV sp) (hr : RoomG k X.A) (hg : Gl X x) (hx : Passes CX X E) (hkw : PK X kws tk)
    (hall : (backToKw pos (keywordEach kws X.env)).all (·.1.isSome) = true := by rfl) (hks : (backToKw pos (keywordEach kws X.env)).filterMap (·.1) = ks := by rfl) (hdb : (x == ("__debug__" : Str)) = false := by decide)
    (hpl : ((backTo pos (starEach [] X.env)).any (·.1) || (backToKw pos (keywordEach kws X.env)).any (·.1.isNone)) = false := by rfl) :
    PE X (.Call (.Name x p) [] kws pos) (tCallK sp gV E tNil tk) := by
  obtain ⟨f, fd, g, m, F, kp, b⟩ := G.ex
  refine ⟨fun pins s σ H Q I h => wpAny_Call_Name_kw (ld_glob I hg m (PySem.W.callWith_KW0 (h₀ := X.base) I.ok.mod.kin kp hall ?_ hpl) hdb)⟩
  refine thn (hkw.run pos pins s σ H _ I h) fun ws z ⟨zs, G, J, rz, q⟩ => ⟨J.kIn, ?_⟩
  rw [hks]
  exact run_gk F hr b hx J .nil rz q
theorem pe_fK (G : DefK X.prog X.w X.K X.mg X.base CX x k ps ks gV sp) (hr : RoomG k X.A) (hg : Gl X x) (hx : Passes CX X E) (ha : PA X (e :: es) t) (hkw : PK X kws tk)
    (hall : (backToKw pos (keywordEach kws X.env)).all (·.1.isSome) = true := by rfl) (hks : (backToKw pos (keywordEach kws X.env)).filterMap (·.1) = ks := by rfl) (hdb : (x == ("__debug__" : Str)) = false := by decide)
    (he : starEach (e :: es) X.env = (false, eval e X.env) :: starEach es X.env := by rfl)
    (hpl : ((backTo pos (starEach (e :: es) X.env)).any (·.1) || (backToKw pos (keywordEach kws X.env)).any (·.1.isNone)) = false := by rfl) :
    PE X (.Call (.Name x p) (e :: es) kws pos) (tCallK sp gV E t tk) := by
  obtain ⟨f, fd, g, m, F, kp, b⟩ := G.ex
  refine ⟨fun pins s σ H Q I h => wpAny_Call_Name_kw (ld_glob I hg m ?_ hdb)⟩
  refine PySem.W.callWith_KW (h₀ := X.base) I.ok.mod.kin kp hall (thn (ha.run pos pins s σ H _ I h) fun us z ⟨vs, G, J, r, q⟩ => ?_) hpl he
  refine thn (hkw.run pos pins z σ G _ J q) fun ws z2 ⟨zs, G2, J2, rz, q2⟩ => ⟨J2.kIn, ?_⟩
  rw [hks]
  exact run_gk F hr b hx J2 r rz q2
end
theorem FnG.no {P : Program} {w : World} {K : PySem.W.Frag} {mg : Str → Option Value} {base : Heap} {CX : CXT} {k : Nat} {f : Addr} {fd : FuncData} {ps : List Str} {sp : Sp} (h : ∀ vs H Q E, sp vs H Q E → False) : FnG P w K mg base CX k f fd ps sp :=
  ⟨fun vs H Q E y => (h vs H Q E y).elim, fun _ _ _ H _ _ vs Q E _ _ _ _ y => (h vs H Q E y).elim⟩
theorem FnG.mono {P : Program} {w : World} {K : PySem.W.Frag} {mg : Str → Option Value} {base : Heap} {CX : CXT} {j k : Nat} {f : Addr} {fd : FuncData} {ps : List Str} {sp : Sp} (F : FnG P w K mg base CX j f fd ps sp) (h : j ≤ k) : FnG P w K mg base CX k f fd ps sp :=
  ⟨F.ln, fun A ou z H ar us vs Q E hr => F.go A ou z H ar us vs Q E (hr.mono h)⟩
/-- what stands in a class of the text -/
def clsB : Stmt → List Stmt := fun
  | .ClassDef (body := bd) .. => bd
  | _ => []
/-! ### an own class: made by its name, fields read -/
structure ClsF (K : PySem.W.Frag) (C : Addr) (fs : List Str) : Prop where
  cl : Cls K C
  na : ∀ f ∈ fs, NoAttr K C f
/-- the class by its name -/
structure ClsN (K : PySem.W.Frag) (x : Str) (C : Addr) (fs : List Str) : Prop extends ClsF K C fs where
  nm : PySem.W.nsIn K mainGlobals x = some (some (.ref C))
theorem ClsN.uniq {K : PySem.W.Frag} {x : Str} {C D : Addr} {fs gs : List Str} (a : ClsN K x C fs) (b : ClsN K x D gs) : C = D := by
  have e := a.nm.symm.trans b.nm
  cases e
  rfl
theorem mk_guards {A : Around} {C : Addr} {us : List Value} {kw : List (Str × Value)} (g : A.guards = some []) : (A.under (.builtin "type.__call__" ⟨.ref C :: us, kw⟩)).guards = some [] := by
  first | exact g | (simp [Around.under, Code.guards, Code.isGuard, guardIds, pushGuards, g])
theorem RoomG.mk2 {k : Nat} {A : Around} (r : RoomG (k + 1) A) (C : Addr) (us : List Value) : RoomG k (A.under (.builtin "type.__call__" ⟨.ref C :: us, []⟩)) := ⟨r.rm.make C us [], mk_guards r.gd, by have := r.un; rw [make_units]; omega⟩
structure DefM (P : Program) (w : World) (K : PySem.W.Frag) (mg : Str → Option Value) (base : Heap) (CX : CXT) (name : Str) (k : Nat) (ps : List Str) (sp : Sp) (C : Addr) : Prop where
  ex : ∃ f fd, mg name = some (.ref C) ∧ Mk K C f ∧ FnG P w K mg base CX k f fd ps sp ∧ Binds K fd ps []
theorem run_mkG {X : Cx} {CX : CXT} {k : Nat} {f C : Addr} {fd : FuncData} {ps : List Str} {sp : Sp} {E : XK} {pins : List (Addr × Obj)} {σ : L2.St} {H : Hp} {s : Shared} {Q : VK} {us : List Value} {vs : List V} (M : Mk X.K C f)
    (F : FnG X.prog X.w X.K X.mg X.base CX k f fd ps sp) (hr : RoomG (k + 1) X.A) (hb : Binds X.K fd ps []) (hx : Passes CX X E) (I : Inv X pins σ H s) (r : Vals vs us)
    (h : ∀ x dx, H x = none → H dx = none → dx ≠ x → sp (.ref x :: (vs ++ [])) (upd (upd H dx (.own x)) x (.ins C dx [])) (fun v H2 => v = .non ∧ Q (.ref x) H2) E) : wpAny (model X.prog X.w) X.A (call (.ref C) us) (EP X pins σ Q) X.xe s := by
  have hq := h (s.heap.objs.size + 1) s.heap.objs.size (I.hok.fresh (Nat.le_succ _)) (I.hok.fresh (Nat.le_refl _)) (Nat.ne_of_lt (Nat.lt_succ_self _))
  have J := Inv.made (C := C) I
  have q : Vals (V.ref (s.heap.objs.size + 1) :: (vs ++ [])) (Value.ref (s.heap.objs.size + 1) :: (us ++ [])) := .cons rfl (r.append .nil)
  have hl : (Value.ref (s.heap.objs.size + 1) :: us ++ []).length = ps.length := q.length.symm.trans (F.ln _ _ _ _ hq)
  have run := F.go _ X.stack _ _ ⟨Value.ref (s.heap.objs.size + 1) :: us, []⟩ (Value.ref (s.heap.objs.size + 1) :: (us ++ [])) _ _ E (hr.mk2 C us) (J.env0.make C us []) (by rw [← List.cons_append]; exact hb _ (Value.ref (s.heap.objs.size + 1) :: us) J.kIn hl) q hq
  refine wpAny_call (make_map (f := f) I.kIn M.makes M.init (beq_iff_eq.mp M.fn) (codeAny_mono run fun r z y => ?_))
  match r, y with
  | .error e, y => exact hx pins σ _ _ e z J y
  | .ok .next, y => exact y.elim
  | .ok .brk, y => exact y.elim
  | .ok .cont, y => exact y.elim
  | .ok (.ret u), y =>
    obtain ⟨v, G, J2, rv, ev, q3⟩ := J.after y
    subst ev
    exact ⟨rv, ⟨V.ref (s.heap.objs.size + 1), G, J2, rfl, q3⟩⟩
theorem pe_mk {X : Cx} {CX : CXT} {k : Nat} {ps : List Str} {sp : Sp} {x : Str} {C : Addr} {p pos : Pos} {e : Expr} {es : List Expr} {t : TA} {E : XK} (G : DefM X.prog X.w X.K X.mg X.base CX x k ps sp C) (hr : RoomG (k + 1) X.A) (hg : Gl X x) (hx : Passes CX X E) (ha : PA X (e :: es) t)
    (hdb : (x == ("__debug__" : Str)) = false := by decide) (he : starEach (e :: es) X.env = (false, eval e X.env) :: starEach es X.env := by rfl) (hpl : (backTo pos (starEach es X.env)).any (·.1) = false := by rfl) :
    PE X (.Call (.Name x p) (e :: es) [] pos) (tMake C sp [] E t) := by
  obtain ⟨f, fd, m, M, F, b⟩ := G.ex
  refine ⟨fun pins s σ H Q I h => wpAny_Call_Name_kw (ld_glob I hg m ?_ hdb)⟩
  exact PySem.W.callWith_K (h₀ := X.base) I.ok.mod.kin M.kp (thn (ha.run pos pins s σ H _ I h) fun us z ⟨vs, G, J, r, q⟩ => ⟨J.kIn, run_mkG M F hr b hx J r q⟩) he hpl
/-! ### own methods -/
structure DefO (P : Program) (w : World) (K : PySem.W.Frag) (mg : Str → Option Value) (base : Heap) (CX : CXT) (C : Addr) (nm : Str) (k : Nat) (ps : List Str) (sp : Sp) : Prop where
  ex : ∃ f fd, PySem.W.findIn K (.ref C) nm = some (some (.ref f)) ∧ PySem.W.isFn K (.ref f) = true ∧ FnG P w K mg base CX k f fd ps sp ∧ Binds K fd ps []
theorem run_gA {X : Cx} {CX : CXT} {k : Nat} {f : Addr} {fd : FuncData} {ps : List Str} {sp : Sp} {E : XK} {pins : List (Addr × Obj)} {σ : L2.St} {H : Hp} {s : Shared} {Q : VK} {us : List Value} {vs : List V} {A : Around}
    (F : FnG X.prog X.w X.K X.mg X.base CX k f fd ps sp) (hr : RoomG k A) (fr : A.frames = X.A.frames) (hb : Binds X.K fd ps []) (hx : Passes CX X E) (I : Inv X pins σ H s) (r : Vals vs us) (h : sp vs H Q E) : wpAny (model X.prog X.w) A (call (.ref f) us) (EP X pins σ Q) X.xe s := by
  have e0 : Env0 X.prog X.w X.K X.mg X.base A X.stack s H := by
    have e := I.env0
    exact ⟨by rw [fr]; exact e.frames, e.mod, e.bs, e.bsz, e.funs, e.frf, e.hok, e.bare⟩
  have q := r.append (show Vals [] [] from .nil)
  have h : sp (vs ++ []) H Q E := by rw [List.append_nil]; exact h
  exact wpAny_call (codeAny_mono (F.go A X.stack s H ⟨us, []⟩ (us ++ []) (vs ++ []) Q E hr e0 (hb s us I.kIn (q.length.symm.trans (F.ln _ _ _ _ h))) q h) fun _ _ y => aft hx I y)
theorem cmpBack {X : Cx} {pins : List (Addr × Obj)} {σ : L2.St} {Q : VK} {u : Value} {s : Shared} (h : EP X pins σ Q u s) : PySem.W.CmpBack (EP X pins σ Q) u s := by
  obtain ⟨v, H', I, r, q⟩ := id h
  cases u <;> first | exact h | (exfalso; cases v <;> first | (cases r; done) | (obtain ⟨_, e⟩ := r; cases e))
/-- x == y of one class with an == of its own -/
def rEqO (C : Addr) (sp : Sp) (E : XK) : R2 := fun x y H Q => ∃ a b dx dy fs gs, x = .ref a ∧ y = .ref b ∧ H a = some (.ins C dx fs) ∧ H b = some (.ins C dy gs) ∧ sp [.ref a, .ref b] H Q E
theorem op_eqO {X : Cx} {CX : CXT} {C : Addr} {n : Nat} {ps : List Str} {sp : Sp} {E : XK} (G : DefO X.prog X.w X.K X.mg X.base CX C "__eq__" n ps sp) (hr : RoomG n X.A) (hx : Passes CX X E) : OpR X (compareOp .Eq) (rEqO C sp E) := by
  obtain ⟨f, fd, hs, hf, F, hb⟩ := G.ex
  intro pins s σ H x y v u Q I rx ry h
  obtain ⟨a, b, dx, dy, fs, gs, rfl, rfl, ha, hb', h⟩ := h
  cases rx
  cases ry
  obtain ⟨mA, J, _⟩ := ins_get I.hok ha
  obtain ⟨mB, J', _⟩ := ins_get I.hok hb'
  obtain ⟨od, J, _⟩ := J.look
  obtain ⟨od', J', _⟩ := J'.look
  obtain ⟨m, hF⟩ := I.fr
  show wpAny (model X.prog X.w) X.A (richCompare .Eq (.ref a) (.ref b)) (EP X pins σ Q) X.xe s
  refine PySem.W.cmp_K (op := .Eq) (tb := .ref C) (by have := hr.units; omega) hF I.ok.mod.kin J J'.type (by simp [PySem.W.notFirst]) hs hf ?_
  exact wpAny_mono (run_gA F hr rfl hb hx I (show Vals [V.ref a, V.ref b] [Value.ref a, Value.ref b] from .cons rfl (.cons rfl .nil)) h) (fun r z q => cmpBack q) fun _ _ e => e
theorem w_eqO {C a b dx dy : Addr} {fs gs : List (Str × V)} {sp : Sp} {E : XK} {H : Hp} {Q : VK} (ha : H a = some (.ins C dx fs)) (hb : H b = some (.ins C dy gs)) (k : sp [.ref a, .ref b] H Q E) : rEqO C sp E (.ref a) (.ref b) H Q := ⟨a, b, dx, dy, fs, gs, rfl, rfl, ha, hb, k⟩
/-! x != y: the contrary of the own == -/
section
variable {prog : Program} {w : World} {A : Around} {E : Value → Shared → Prop} {s : Shared} {K : PySem.W.Frag} {x C L f : Addr} {h₀ : Heap} {m : Str → Option Value} {ox : Obj} {od : Option Obj} {b tb : Value}
theorem ifBound_ne {M : Model} {args : List Value} {Q : Option Value → Shared → Prop} (X : K.In s.heap) (I : PySem.W.InstAt s.heap x ox C od) (hs : PySem.W.findIn K (.ref C) "__ne__" = some (some (.builtin "object.__ne__")))
    (h : wpAny M A (call (.builtin "object.__ne__") (.ref x :: args)) (fun v => Q (some v)) E s) : wpAny M A (callSpecialIfBound? (.ref x) "__ne__" args) Q E s := by
  simp only [callSpecialIfBound?, bindSpecialIfBound?]
  refine PySem.wpAny_holding (PySem.wpAny_bind (PySem.wpAny_bind (PySem.wpAny_bind (I.type.here ((PySem.W.looks_findIn X hs).here ?_)))))
  refine PySem.wpAny_bind (PySem.wpAny_askSetting (PySem.wpAny_ite ?_))
  have fin : wpAny M A (call (.builtin "object.__ne__") ([.ref x] ++ args) >>= fun v => pure (some v)) Q E s := PySem.wpAny_bind (wpAny_mono h (fun v s' h' => PySem.wpAny_pure h') fun _ _ h' => h')
  split
  · exact PySem.wpAny_bind (wpAny_of_eq (PySem.F.cmp_object.ne.bind _) (PySem.wpAny_pure (by exact fin)))
  · exact PySem.wpAny_tryCatch (PySem.wpAny_bind (wpAny_of_eq (PySem.F.cmp_object.ne.bind _) (PySem.wpAny_pure (by exact fin))))
def NeBack (Q : Value → Shared → Prop) (v : Value) (s' : Shared) : Prop := match v with
  | .bool k => Q (.bool (!k)) s'
  | _ => False
theorem ne_K {Q : Value → Shared → Prop} (hu : A.units + 2 < cLine) (F : Fr h₀ L s.heap m) (X₀ : K.In h₀) (I : PySem.W.InstAt s.heap x ox C od) (hb : PySem.W.Looks (model prog w) s.heap (typeOf b) tb) (hn : PySem.W.notFirst K C tb = true) (hm : PySem.W.mroIn K C (.type "object") = some true)
    (hne : PySem.W.findIn K (.ref C) "__ne__" = some (some (.builtin "object.__ne__"))) (hs : PySem.W.findIn K (.ref C) "__eq__" = some (some (.ref f))) (hf : PySem.W.isFn K (.ref f) = true)
    (h : wpAny (model prog w) A.in1 (call (.ref f) [.ref x, b]) (NeBack Q) E s) : wpAny (model prog w) A (richCompare .NotEq (.ref x) b) Q E s := by
  have X := X₀.keeps F.keep
  have one : wpAny (model prog w) A (tryCompare (.ref x) (cmpInfo .NotEq).2.1 b) (fun r s' => ∃ v, r = some v ∧ Q v s') E s := by
    unfold tryCompare
    refine PySem.wpAny_bind (ifBound_ne X I hne ?_)
    refine wpAny_call (codeAny_call_builtin PySem.F.cmp_object.ne.plain PySem.F.cmpEntry_ne (PySem.W.check_slot PySem.F.cmpKind_ne PySem.F.cmpSplit_ne (I.type.andThen (PySem.W.looks_mroIn X hm)) (PySem.F.cmpArgs_ne _ _) ?_))
    unfold Builtin.«object.__ne__»
    refine PySem.wpAny_bind (m := slotArgs "__ne__" 1 _) (PySem.wpAny_pure ?_)
    refine PySem.wpAny_bind (m := cRoomFor _ _) (wpAny_cRoomFor (by show A.units + 1 < cLine; omega) ?_)
    refine PySem.wpAny_bind (m := callSpecialIfBound? (.ref x) (Str.ofString "__eq__") _) (PySem.W.ifBound_K X I hs hf (wpAny_mono h (fun r s' hq => ?_) fun _ _ e => e))
    cases r <;> first | exact hq.elim | skip
    rename_i k
    refine PySem.wpAny_bind (wpAny_truthy_bool ?_)
    exact PySem.wpAny_pure (PySem.wpAny_pure ⟨_, rfl, hq⟩)
  unfold richCompare
  simp only [oneThing_ref]
  refine PySem.wpAny_holding (PySem.wpAny_bind (wpAny_cRoomFor (by omega) ?_))
  refine PySem.wpAny_bind (I.type.here (PySem.wpAny_bind (hb.here ?_)))
  split
  · rename_i q
    have e : PySem.W.subIn K tb (.ref C) = some false := by
      rcases Bool.or_eq_true_iff.mp hn with e | e
      · rw [beq_iff_eq.mp e] at q; simp at q
      · exact beq_iff_eq.mp e
    refine PySem.wpAny_bind ((PySem.W.looks_subIn X e).here ?_)
    simp only [Bool.false_eq_true, if_false]
    refine PySem.wpAny_bind (wpAny_mono one (fun r s' z => ?_) fun _ _ e => e)
    obtain ⟨v, rfl, hq⟩ := z
    exact PySem.wpAny_pure hq
  · refine PySem.wpAny_bind (PySem.wpAny_pure ?_)
    simp only [Bool.false_eq_true, if_false]
    refine PySem.wpAny_bind (wpAny_mono one (fun r s' z => ?_) fun _ _ e => e)
    obtain ⟨v, rfl, hq⟩ := z
    exact PySem.wpAny_pure hq
end
def rNeO (C : Addr) (sp : Sp) (E : XK) : R2 := fun x y H Q => ∃ a b dx dy fs gs, x = .ref a ∧ y = .ref b ∧ H a = some (.ins C dx fs) ∧ H b = some (.ins C dy gs) ∧ sp [.ref a, .ref b] H (fun v H' => ∃ k, v = .bl k ∧ Q (.bl (!k)) H') E
theorem op_neO {X : Cx} {CX : CXT} {C : Addr} {n : Nat} {ps : List Str} {sp : Sp} {E : XK} (G : DefO X.prog X.w X.K X.mg X.base CX C "__eq__" n ps sp) (hne : PySem.W.findIn X.K (.ref C) "__ne__" = some (some (.builtin "object.__ne__"))) (hm : PySem.W.mroIn X.K C (.type "object") = some true) (hr : RoomG (n + 1) X.A) (hx : Passes CX X E) : OpR X (compareOp .NotEq) (rNeO C sp E) := by
  obtain ⟨f, fd, hs, hf, F, hb⟩ := G.ex
  intro pins s σ H x y v u Q I rx ry h
  obtain ⟨a, b, dx, dy, fs, gs, rfl, rfl, ha, hb', h⟩ := h
  cases rx
  cases ry
  obtain ⟨mA, J, _⟩ := ins_get I.hok ha
  obtain ⟨mB, J', _⟩ := ins_get I.hok hb'
  obtain ⟨od, J, _⟩ := J.look
  obtain ⟨od', J', _⟩ := J'.look
  obtain ⟨m, hF⟩ := I.fr
  show wpAny (model X.prog X.w) X.A (richCompare .NotEq (.ref a) (.ref b)) (EP X pins σ Q) X.xe s
  refine ne_K (tb := .ref C) (by have := hr.units; omega) hF I.ok.mod.kin J J'.type (by simp [PySem.W.notFirst]) hm hne hs hf ?_
  refine wpAny_mono (run_gA F hr.in1 rfl hb hx I (show Vals [V.ref a, V.ref b] [Value.ref a, Value.ref b] from .cons rfl (.cons rfl .nil)) h) (fun r z q => ?_) fun _ _ e => e
  obtain ⟨v, H', I', rv, k, rfl, q⟩ := q
  obtain rfl : r = Value.bool k := rv
  exact ⟨.bl (!k), H', I', rfl, q⟩
theorem w_neO {C a b dx dy : Addr} {fs gs : List (Str × V)} {sp : Sp} {E : XK} {H : Hp} {Q : VK} (ha : H a = some (.ins C dx fs)) (hb : H b = some (.ins C dy gs)) (k : sp [.ref a, .ref b] H (fun v H' => ∃ k, v = .bl k ∧ Q (.bl (!k)) H') E) : rNeO C sp E (.ref a) (.ref b) H Q := ⟨a, b, dx, dy, fs, gs, rfl, rfl, ha, hb, k⟩
/-- data of any depth -/
def rEqDD (K : PySem.W.Frag) : R2 := fun x y H Q => ∃ d e, Dp K H x d ∧ Dp K H y e ∧ d.canLay0 = true ∧ e.canLay0 = true ∧ d.depth ≤ 3000 ∧ Q (.bl (PyData.eqv d e)) H
def rNeDD (K : PySem.W.Frag) : R2 := fun x y H Q => ∃ d e, Dp K H x d ∧ Dp K H y e ∧ d.canLay0 = true ∧ e.canLay0 = true ∧ d.depth ≤ 3000 ∧ Q (.bl (!PyData.eqv d e)) H
theorem op_eqDD {X : Cx} {K : PySem.W.Frag} (hK : X.K = K) (hu : X.A.units + 5000 < cLine) : OpR X (compareOp .Eq) (rEqDD K) := by
  subst hK
  intro pins s σ H x y v u Q I rx ry h
  obtain ⟨d, e, hd, he, sd, se, dp, q⟩ := h
  obtain ⟨as, r1⟩ := Dp.reads I d x v hd rx
  obtain ⟨bs, r2⟩ := Dp.reads I e y u he ry
  exact SeqAt.compareEq_reads r1 r2 sd se (by omega) ⟨.bl _, H, I, rfl, q⟩
theorem op_neDD {X : Cx} {K : PySem.W.Frag} (hK : X.K = K) (hu : X.A.units + 5000 < cLine) : OpR X (compareOp .NotEq) (rNeDD K) := by
  subst hK
  intro pins s σ H x y v u Q I rx ry h
  obtain ⟨d, e, hd, he, sd, se, dp, q⟩ := h
  obtain ⟨as, r1⟩ := Dp.reads I d x v hd rx
  obtain ⟨bs, r2⟩ := Dp.reads I e y u he ry
  exact SeqAt.compareNe_reads r1 r2 sd se (by omega) ⟨.bl _, H, I, rfl, q⟩
/-! isinstance of a class of one's own -/
structure ClsO (K : PySem.W.Frag) (C : Addr) : Prop where
  ne : PySem.W.findIn K (.ref C) "__ne__" = some (some (.builtin "object.__ne__"))
  mo : PySem.W.mroIn K C (.type "object") = some true
  kc : PySem.W.findIn K (.ref C) "__class__" = some (some (.builtin "object.__class__"))
  kg : PySem.W.specialIn K (.builtin "object.__class__") "__get__" = some (some (.builtin "getset_descriptor.__get__"))
  kt : PySem.W.takesIn K (.builtin "object.__class__") = some true
  ki : PySem.W.kitOne K (.ref C) (.ref C) = some true
theorem w_isiOwn {K : PySem.W.Frag} {H : Hp} {Q : VK} {a C dx : Addr} {fs : List (Str × V)} (h : H a = some (.ins C dx fs)) (cl : Cls K C) (o : ClsO K C) (k : Q (.bl true) H) : rIsi K [.ref a, .ref C] H Q := ⟨_, _, _, _, _, rfl, .own C, .base (.ins h cl o.kc o.kg o.kt o.mo), o.ki, k⟩
/-- a dict of the module has these texts as keys -/
def KDs (K : PySem.W.Frag) (w : World) (a : Addr) (ks : List Str) : Prop := (a == sysModules) = false ∧ ∀ z ∈ ks, ∃ v, KDct K w a z v
/-- a dict of the module: texts, each with a tuple of texts -/
def KDt (K : PySem.W.Frag) (w : World) (a : Addr) (l : List (Str × List Str)) : Prop := (a == sysModules) = false ∧ ∀ z ∈ l, ∃ t, KDct K w a z.1 (.ref t) ∧ ∀ H, SqT K H t (z.2.map V.str)
def tKGet (K : PySem.W.Frag) (w : World) (td ty : TE) : TE := fun σ H Q => td σ H fun x H1 => ty σ H1 fun y H2 => ∃ a z v, x = .ref a ∧ y = .str z ∧ (a == sysModules) = false ∧ KDct K w a z v ∧ Q v H2
theorem pe_kget {X : Cx} {o i : Expr} {pos : Pos} {td ty : TE} (ho : PE X o td) (hi : PE X i ty) (hs : NoSl i) : PE X (.Subscript o i pos) (tKGet X.K X.w td ty) := by
  refine ⟨fun pins s σ H Q I h => ?_⟩
  refine subD_of PySem.F.slot_dict_getitem.lookup hs (thn (ho.run pins s σ H _ I h) fun u s1 ⟨x, H1, I1, rx, q1⟩ => thn (hi.run pins s1 σ H1 _ I1 q1) fun iv s2 ⟨y, H2, I2, ry, a, z, v, ex, ey, low, ⟨es, n, u0, hl, hk, e, ru⟩, q2⟩ => ?_)
  subst ex
  subst ey
  obtain rfl : u = Value.ref a := rx
  obtain ⟨t, rfl⟩ := (show ∃ t, iv = Value.str z t from ry)
  refine ⟨⟨_, I2.kIn _ _ hl, rfl⟩, wpAny_getItem_of (strKind_is X.prog X.w z t) (PySem.W.mapOf_K (prog := X.prog) (w := X.w) I2.kIn hl hk) ((PySem.W.find_K hl e)) ⟨v, H2, I2.tok _, ru, q2⟩⟩
def tNiK (K : PySem.W.Frag) (w : World) (ty td : TE) : TE := fun σ H Q => ty σ H fun y H1 => td σ H1 fun x H2 => ∃ a z v, x = .ref a ∧ y = .str z ∧ (a == sysModules) = false ∧ KDct K w a z v ∧ Q (.bl false) H2
theorem pc_niK {X : Cx} {i o : Expr} {ty td : TE} (hi : PE X i ty) (ho : PE X o td) : PC X .NotIn i o (tNiK X.K X.w ty td) := by
  refine ⟨fun pins s σ H Q I h => ?_⟩
  refine thn (hi.run pins s σ H _ I h) fun iv s1 ⟨y, H1, I1, ry, q1⟩ => thn (ho.run pins s1 σ H1 _ I1 q1) fun u s2 ⟨x, H2, I2, rx, a, z, v, ex, ey, low, ⟨es, n, u0, hl, hk, e, ru⟩, q2⟩ => ?_
  subst ex
  subst ey
  obtain rfl : u = Value.ref a := rx
  obtain ⟨t, rfl⟩ := (show ∃ t, iv = Value.str z t from ry)
  have hm := PySem.W.mapOf_K (prog := X.prog) (w := X.w) I2.kIn hl hk
  refine wpAny_notIn_of (strKind_is X.prog X.w z t) low hm ?_
  rw [PySem.W.find_K hl e]
  exact ⟨.bl false, H2, I2.tok _, rfl, q2⟩
/-! ### the top: the law is called where nothing is being shown -/
theorem top_core {P : Program} {w : World} {K : PySem.W.Frag} {mg mb : Str → Option Value} {CX : CXT} {k : Nat} {fa a : Addr} {fd : FuncData} {x : Str} {sp : Sp} {z : Shared} {vs : List Value} {ns : List Int} (kz : K.In z.heap) (g1 : z.heap.Ns mainGlobals mg) (g2 : z.heap.Ns builtinsNs mb)
    (g3 : ∀ y : Str, y ≠ "__name__" → mb y = bootBuiltins y) (lim : z.heap.NoLimit) (gn : z.gens = #[]) (ha : z.heap.get? a = some { cls := .type "list", data := .seq vs.toArray }) (hr : RoomG k callerA)
    (F : ∀ base : Heap, K.In base → base.Ns mainGlobals mg → FnG P w K mg base CX k fa fd [x] sp) (hb : ∀ (s : Shared) (u : Value), BindsTo s fd ⟨[u], []⟩ [(x, u)]) (hCX : ∀ H e s', CX [] H z (fun _ _ _ => False) e s' → False)
    (H : Hp) (hO : Only H) (hsp : sp [.ref a] H (fun v _ => v = .bl true) fun _ _ _ => False) (ok : HOk P w H z.heap) (hA : ∀ b, H b ≠ none → b = a) (hK : H a ≠ none → K.lookup a = none) :
    codeAny (model P w) callerA (.call (.ref fa) ⟨[.ref a], []⟩) (fun r s' => r = .ok (.ret (.bool true)) ∧ OldK z.heap s'.heap ∧ s'.os = z.os ∧ AllBare s'.gens) z := by
  have non : ∀ {b : Addr} {o : Obj} {es : Array DictEntry} {ep : Nat}, z.heap.get? b = some o → o.data = .dict es ep → H b = none := by
    intro b o es ep e d
    refine Classical.byContradiction fun q => ?_
    have eb := hA b q
    subst eb
    rw [ha] at e
    cases e
    cases (show Data.seq vs.toArray _ = Data.dict es ep from d)
  have nk : ∀ {b : Addr} {m : Str → Option Value}, z.heap.Ns b m → (hidT z.heap H).Ns b m := by
    rintro b m ⟨o, es, ep, e, d, r⟩
    exact ⟨o, es, ep, hidT_get e (non e d), d, r⟩
  have kb : K.In (hidT z.heap H) := by
    intro b o e
    refine hidT_get (kz b o e) (Classical.byContradiction fun q => ?_)
    have eb := hA b q
    subst eb
    rw [hK q] at e
    cases e
  have hM : Mod K mg (hidT z.heap H) := ⟨kb, nk g1, ⟨mb, nk g2, g3⟩, lim.elim fun mc h => ⟨mc, nk h.1, h.2⟩⟩
  have e0 : Env0 P w K mg (hidT z.heap H) callerA [] z H := ⟨rfl, hM, fun b o e => of_hidT e, Nat.le_of_eq (hidT_size _ _), trivial, (by intro b hb; cases (show b ∈ ([] : List Addr) from hb)), ok, .of_eq gn⟩
  refine codeAny_mono ((F _ kb (nk g1)).go callerA [] z H ⟨[.ref a], []⟩ [.ref a] [.ref a] _ _ hr e0 (hb z (.ref a)) (.cons rfl .nil) hsp) fun r s' h => ?_
  match r, h with
  | .error e, h => exact (hCX H e s' h).elim
  | .ok .next, h => exact h.elim
  | .ok .brk, h => exact h.elim
  | .ok .cont, h => exact h.elim
  | .ok (.ret u), h =>
    obtain ⟨v, G, os, bare, un, ok', rv, q⟩ := h
    have q : v = .bl true := q
    subst q
    obtain rfl : u = Value.bool true := rv
    refine ⟨rfl, OldK.of_keep fun b o e => ?_, os, bare⟩
    rcases hO b with y | ⟨ob, xs, y⟩
    · exact un.keep b o e y (by intro n; cases (show b ∈ ([] : List Addr) from n)) (by simp)
    · obtain ⟨e1, _⟩ := ok b _ y
      obtain ⟨e2, _⟩ := ok' b _ (un.frzs b ob _ y)
      rw [e] at e1
      cases e1
      exact e2
theorem top_run {P : Program} {w : World} {K : PySem.W.Frag} {mg mb : Str → Option Value} {CX : CXT} {k : Nat} {fa a : Addr} {fd : FuncData} {x : Str} {sp : Sp} {z : Shared} {vs : List Value} {ns : List Int} (kz : K.In z.heap) (g1 : z.heap.Ns mainGlobals mg) (g2 : z.heap.Ns builtinsNs mb)
    (g3 : ∀ y : Str, y ≠ "__name__" → mb y = bootBuiltins y) (lim : z.heap.NoLimit) (gn : z.gens = #[]) (ha : z.heap.get? a = some { cls := .type "list", data := .seq vs.toArray }) (hi : IntsAre vs ns) (hl : ns.length ≤ sizeLine) (hr : RoomG k callerA)
    (F : ∀ base : Heap, K.In base → base.Ns mainGlobals mg → FnG P w K mg base CX k fa fd [x] sp) (hb : ∀ (s : Shared) (u : Value), BindsTo s fd ⟨[u], []⟩ [(x, u)]) (hCX : ∀ H e s', CX [] H z (fun _ _ _ => False) e s' → False)
    (hsp : ∀ H : Hp, Only H → SqL K H a (ns.map V.int) → sp [.ref a] H (fun v _ => v = .bl true) fun _ _ _ => False) :
    codeAny (model P w) callerA (.call (.ref fa) ⟨[.ref a], []⟩) (fun r s' => r = .ok (.ret (.bool true)) ∧ OldK z.heap s'.heap ∧ s'.os = z.os ∧ AllBare s'.gens) z := by
  have rv := vals_ints hi
  have le := hi.length
  cases hk : K.lookup a with
  | some o =>
    have e := kz a o hk
    rw [ha] at e
    cases e
    have hO : Only (fun _ => none) := fun _ => .inl rfl
    exact top_core (ns := ns) kz g1 g2 g3 lim gn ha hr F hb hCX _ hO (hsp _ hO (.inr ⟨_, vs.toArray, _, hk, rfl, rfl, rfl, (by rw [List.size_toArray, le]; exact hl), (by simpa using rv)⟩)) (by intro b u y; cases (show (none : Option HO) = some u from y)) (by intro b y; exact absurd rfl y) (by intro y; exact absurd rfl y)
  | none =>
    have h1 : ∀ b u, (if b = a then some (HO.frz { cls := .type "list", data := .seq vs.toArray } (.lst (ns.map V.int))) else none) = some u → b = a ∧ u = HO.frz { cls := .type "list", data := .seq vs.toArray } (.lst (ns.map V.int)) := by
      intro b u y
      by_cases n : b = a
      · rw [if_pos n] at y
        cases y
        exact ⟨n, rfl⟩
      · rw [if_neg n] at y
        cases y
    have hO : Only (fun b => if b = a then some (HO.frz { cls := .type "list", data := .seq vs.toArray } (.lst (ns.map V.int))) else none) := fun b => by
      by_cases n : b = a
      · exact .inr ⟨_, _, if_pos n⟩
      · exact .inl (if_neg n)
    refine top_core (ns := ns) kz g1 g2 g3 lim gn ha hr F hb hCX _ hO (hsp _ hO (.inl (.inr ⟨{ cls := .type "list", data := .seq vs.toArray }, if_pos rfl⟩))) (fun b u y => ?_) (fun b y => ?_) (fun _ => hk)
    · obtain ⟨rfl, rfl⟩ := h1 b u y
      exact ⟨ha, by rw [List.length_map]; exact hl, vs, _, rv, ha⟩
    · by_cases n : b = a
      · exact n
      · exact absurd (if_neg n) y
theorem walk_g {l : PySem.W.OpenLaw} {n k : Nat} {q : Program} {loose : List Str} {XP : (Str → Option Value) → Heap → Prop} {YP : World → Heap → Prop} {d : DefRec} {K : Params → PySem.W.Frag} {CX : World → CXT} {sp : World → Sp} {x : Str}
    (hn : l.most = some n) (hn2 : n ≤ sizeLine) (hdf : d.params.defaults = []) (hr : RoomG k callerA) (hY : ∀ (w : World) (h : Heap), YP w h → (K w.params).In h)
    (F : ∀ (w : World) (mg : Str → Option Value) (fa : Addr) (h : Heap), (K w.params).In h → h.Ns mainGlobals mg → mg d.name = some (.ref fa) → ∃ fd : FuncData, (∀ (s : Shared) (u : Value), BindsTo s fd ⟨[u], []⟩ [(x, u)]) ∧
        ∀ base : Heap, (K w.params).In base → base.Ns mainGlobals mg → FnG l.prog w (K w.params) mg base (CX w) k fa fd [x] (sp w))
    (hsp : ∀ (w : World) (H : Hp) (a : Addr) (ns : List Int), ns.length ≤ n → Only H → SqL (K w.params) H a (ns.map V.int) → sp w [.ref a] H (fun v _ => v = .bl true) fun _ _ _ => False)
    (hCX : ∀ (w : World) (H : Hp) (s : Shared) (e : Value) (s' : Shared), CX w [] H s (fun _ _ _ => False) e s' → False) :
    PySem.W.WalkO q loose XP YP l.row.toRowW d [] (fun f vs => PySem.call f vs) := by
  refine Att.attach_call hn hdf fun w s0 z mg mb fa o pm cd dc a vs ns G Y ho hd hcd hmg hobj hi hl hg => ?_
  have kz := hY w _ Y
  obtain ⟨fd, hb, hF⟩ := F w mg fa _ kz G.T.g hmg
  exact top_run kz G.T.g G.T.b G.T.builtins G.T.nolimit hg hobj hi (Nat.le_trans hl hn2) hr hF hb (fun H e s' => hCX w H z e s') fun H hO hS => hsp w H a ns hl hO hS
/-! ### heaps -/
theorem sm_new {H : Hp} {p : Addr} {o : HO} (h : H p = none) : Sm H (upd H p o) := fun b x e => by
  rw [upd_ne (ne_of_none e h)]
  exact e
/-- all but b as it was -/
def Kp (b : Addr) (H H' : Hp) : Prop := ∀ a o, a ≠ b → H a = some o → H' a = some o
theorem Kp.refl {b : Addr} (H : Hp) : Kp b H H := fun _ _ _ h => h
theorem Kp.trans {b : Addr} {H H1 H2 : Hp} (x : Kp b H H1) (y : Kp b H1 H2) : Kp b H H2 := fun a o n h => y a o n (x a o n h)
theorem Kp.of {b : Addr} {H H1 : Hp} (x : Sm H H1) : Kp b H H1 := fun a o _ h => x a o h
theorem kp_upd {b : Addr} {H : Hp} {o : HO} : Kp b H (upd H b o) := fun a x n h => by rw [upd_ne n]; exact h
theorem ne_new {H : Hp} {p b : Addr} {o : HO} (hp : H p = none) (hb : H b = some o) : p ≠ b := fun e => by rw [e, hb] at hp; cases hp
theorem Same.get {H H' : Hp} {a : Addr} {o : HO} (h : Sm H H') (k : H a = some o) : H' a = some o := h a o k
theorem Kp.get {b : Addr} {H H' : Hp} {a : Addr} {o : HO} (h : Kp b H H') (n : a ≠ b) (k : H a = some o) : H' a = some o := h a o n k
theorem ne_new2 {H : Hp} {p b : Addr} {o : HO} (hp : H p = none) (hb : H b = some o) : b ≠ p := fun e => by rw [← e, hb] at hp; cases hp
theorem sm_mut {H H1 H2 : Hp} {p : Addr} (s : Sm H H1) (n : H p = none) (k : Kp p H1 H2) : Sm H H2 := fun a o h => k a o (ne_of_none h n) (s a o h)
theorem kp_mut {b : Addr} {H H1 H2 : Hp} {p : Addr} (s : Kp b H H1) (n : H p = none) (k : Kp p H1 H2) : Kp b H H2 := fun a o m h => k a o (ne_of_none h n) (s a o m h)
theorem kp_free {b : Addr} {H H1 : Hp} {p : Addr} (s : Kp b H H1) (m : p ≠ b) (n : H1 p = none) : H p = none := by
  cases e : H p with
  | none => rfl
  | some o => rw [s p o m e] at n; cases n
theorem at_ints {ns : List Int} {i : Int} (h0 : 0 ≤ i) (h1 : i < ((ns.map V.int).length : Int)) : ∃ n, atI (ns.map V.int) i = some (.int n) := by
  obtain ⟨j, rfl⟩ := Int.eq_ofNat_of_zero_le h0
  have h2 : j < ns.length := by rw [List.length_map] at h1; omega
  exact ⟨ns[j], atI_nat (by rw [List.getElem?_map, List.getElem?_eq_getElem h2]; rfl)⟩
/-- a list that no one stores into: the script's -/
def SqF (K : PySem.W.Frag) (H : Hp) (a : Addr) (xs : List V) : Prop := (∃ o, H a = some (.frz o (.lst xs))) ∨
  ∃ (o : Obj) (its : Array Value) (n : Nat), K.lookup a = some o ∧ o.cls = .type "list" ∧ o.dict = none ∧ o.data = .seq its n ∧ its.size ≤ sizeLine ∧ Vals xs its.toList
theorem SqF.sq {K : PySem.W.Frag} {H : Hp} {a : Addr} {xs : List V} (h : SqF K H a xs) : SqL K H a xs := by
  rcases h with h | h
  · exact .inl (.inr h)
  · exact .inr h
theorem SqF.sm {K : PySem.W.Frag} {H H' : Hp} {a : Addr} {xs : List V} (h : SqF K H a xs) (e : Sm H H') : SqF K H' a xs := by
  rcases h with ⟨o, h⟩ | h
  · exact .inl ⟨o, e _ _ h⟩
  · exact .inr h
theorem SqF.kp {K : PySem.W.Frag} {H H' : Hp} {a b : Addr} {xs ys : List V} (h : SqF K H a xs) (hb : H b = some (.lst ys)) (e : Kp b H H') : SqF K H' a xs := by
  rcases h with ⟨o, h⟩ | h
  · exact .inl ⟨o, e _ _ (ne_of h hb (by intro z; cases z)) h⟩
  · exact .inr h
theorem SqF.of {K : PySem.W.Frag} {H : Hp} {a : Addr} {xs : List V} (hO : Only H) (h : SqL K H a xs) : SqF K H a xs := by
  rcases h with (h | h) | h
  · rcases hO a with e | ⟨o, ys, e⟩
    · rw [e] at h; cases h
    · rw [e] at h; cases h
  · exact .inl h
  · exact .inr h
theorem g_sqf {K : PySem.W.Frag} {H H0 : Hp} {a : Addr} {xs ys : List V} (_ : SqF K H0 a ys) (h : SqF K H a xs) : SqF K H a xs := h
theorem g_lk {H H0 : Hp} {a : Addr} {o o' : HO} (_ : H0 a = some o') (h : H a = some o) : H a = some o := h
theorem g_fr {H H0 : Hp} {a : Addr} (_ : H0 a = none) (h : H a = none) : H a = none := h
/-- a list of tuples of values as told -/
def AllT (P : List V → Prop) (xs : List V) (H : Hp) : Prop := ∀ x ∈ xs, ∃ t vs, x = .ref t ∧ H t = some (.tup vs) ∧ P vs
theorem AllT.nil {P : List V → Prop} {H : Hp} : AllT P [] H := fun _ h => by cases h
theorem AllT.sm {P : List V → Prop} {xs : List V} {H H' : Hp} (h : AllT P xs H) (e : Sm H H') : AllT P xs H' := fun x hx => by
  obtain ⟨t, vs, a, b, c⟩ := h x hx
  exact ⟨t, vs, a, e _ _ b, c⟩
theorem AllT.kp {P : List V → Prop} {xs ys : List V} {H H' : Hp} {b : Addr} (h : AllT P xs H) (hb : H b = some (.lst ys)) (e : Kp b H H') : AllT P xs H' := fun x hx => by
  obtain ⟨t, vs, a, k, c⟩ := h x hx
  exact ⟨t, vs, a, e _ _ (ne_of k hb (by intro z; cases z)) k, c⟩
theorem AllT.add {P : List V → Prop} {xs vs : List V} {H : Hp} {t : Addr} (h : AllT P xs H) (k : H t = some (.tup vs)) (p : P vs) : AllT P (xs ++ [.ref t]) H := fun x hx => by
  rcases List.mem_append.mp hx with hx | hx
  · exact h x hx
  · cases hx with
    | head => exact ⟨t, vs, rfl, k, p⟩
    | tail _ z => cases z
theorem AllT.app {P : List V → Prop} {xs ys : List V} {H : Hp} (h : AllT P xs H) (k : AllT P ys H) : AllT P (xs ++ ys) H := fun x hx => (List.mem_append.mp hx).elim (h x) (k x)
theorem AllT.cut {P : List V → Prop} {xs : List V} {lo hi : Option Int} {H : Hp} (h : AllT P xs H) : AllT P (cutV xs lo hi) H := fun x hx => h x (List.mem_of_mem_drop (List.mem_of_mem_take hx))
theorem AllT.at {P : List V → Prop} {xs : List V} {H : Hp} {n : Nat} {x : V} (h : AllT P xs H) (e : xs[n]? = some x) : ∃ t vs, x = .ref t ∧ H t = some (.tup vs) ∧ P vs := h x (List.mem_of_getElem? e)
theorem at_intE {ns : List Int} {i : Int} {j : Nat} {z : Int} (e : i = (j : Int)) (h : ns[j]? = some z) : atI (ns.map V.int) i = some (.int z) := by
  subst e
  exact atI_nat (by rw [List.getElem?_map, h]; rfl)
theorem d_of {p q : Prop} [Decidable p] [Decidable q] (h : p ↔ q) : decide p = decide q := decide_eq_decide.mpr h
theorem sq_of {K : PySem.W.Frag} {H : Hp} {a : Addr} {xs : List V} (h : H a = some (.lst xs)) : SqL K H a xs := Or.inl (Or.inl h)
theorem st_of {K : PySem.W.Frag} {H : Hp} {a : Addr} {xs : List V} (h : H a = some (.tup xs)) : SqT K H a xs := Or.inl (Or.inl h)
theorem kp_sq {K : PySem.W.Frag} {b : Addr} {H H' : Hp} {a : Addr} {xs : List V} (e : Kp b H H') (n : a ≠ b) (h : SqL K H a xs) : SqL K H' a xs := by
  rcases h with (h | ⟨o, h⟩) | h
  · exact .inl (.inl (e _ _ n h))
  · exact .inl (.inr ⟨o, e _ _ n h⟩)
  · exact .inr h
theorem sm_sq {K : PySem.W.Frag} {H H' : Hp} {a : Addr} {xs : List V} (e : Sm H H') (h : SqL K H a xs) : SqL K H' a xs := e.seq h
theorem sz_of {n : Nat} (h : n ≤ 100000) : n ≤ sizeLine := Nat.le_trans h (by decide)
theorem sz_lt {n : Nat} (h : n < 100000) : n < sizeLine := Nat.lt_of_lt_of_le h (by decide)
/-! ### what follows, by names of our own -/
def NX (D : Ends) : L2.St → Hp → Prop := D.nx
def BK (D : Ends) : L2.St → Hp → Prop := D.bk
def CT (D : Ends) : L2.St → Hp → Prop := D.ct
def RT (D : Ends) : VK := D.rt
def IsBl (x : V) (R : Bool → Prop) : Prop := ∃ k, x = .bl k ∧ R k
def SpC (sp : Sp) (vs : List V) (H : Hp) (Q : VK) (E : XK) : Prop := sp (vs ++ []) H Q E
def PartE (R : Option Int → Hp → Prop) (x : V) (H : Hp) : Prop := ∃ i, x = .int i ∧ R (some i) H
def BmE (K : PySem.W.Frag) (T : String) (x : V) (H : Hp) (R : Prop) : Prop := tyV K T x H ∧ R
def En (n : L2.St → Hp → Prop) (r : VK) (b c : L2.St → Hp → Prop) : Ends := { nx := n, rt := r, bk := b, ct := c }
/-! ### loops -/
def Rg1 (R : It → Hp → Prop) (vs : List V) (H : Hp) : Prop := ∃ j : Int, vs = [.int j] ∧ -(2 ^ 62) ≤ j ∧ j < 2 ^ 62 ∧ R (Itr 0 j.toNat) H
def Rg2 (R : It → Hp → Prop) (vs : List V) (H : Hp) : Prop := ∃ i j : Int, vs = [.int i, .int j] ∧ (-(2 ^ 62) ≤ i ∧ i < 2 ^ 62 ∧ -(2 ^ 62) ≤ j ∧ j < 2 ^ 62) ∧ R (Itr i (j - i).toNat) H
def LsE (K : PySem.W.Frag) (R : It → Hp → Prop) (x : V) (H : Hp) : Prop := ∃ a, x = .ref a ∧ (∃ xs, SqL K H a xs) ∧ R (Itl K a) H
def TpE (K : PySem.W.Frag) (R : It → Hp → Prop) (x : V) (H : Hp) : Prop := ∃ a, x = .ref a ∧ (∃ xs, SqT K H a xs) ∧ R (Itt K a) H
def Loop (J : It) (g : TG) (tb : TS) : TS := fun D σ H => ∃ W : Nat → Nat → L2.St → Hp → Prop, (∃ m, W 0 m σ H) ∧ ∀ i m σ H, W i m σ H →
  (J.stop i H ∧ D.nx σ H) ∨ (J.go i H ∧ ∃ N : L2.St → Hp → Prop, (∀ σ' H', N σ' H' → ∃ m', m' < m ∧ W (i + 1) m' σ' H') ∧ ∀ x H', J.yld i H x H' → g x σ H' fun σ2 H2 => tb { D with nx := N, ct := N, bk := D.nx } σ2 H2)
section
variable {σ : L2.St} {H : Hp} {D : Ends} {K : PySem.W.Frag} {g : TG} {tb : TS} {ta : TA} {te : TE} {c : TT}
theorem w_for {wi : TI} (k : wi σ H fun J H1 => Loop J g tb D σ H1) : tFor wi g tb D σ H := k
theorem w_iR1 {R : It → Hp → Prop} (k : ta σ H fun vs H1 => Rg1 R vs H1) : iRng1 ta σ H R := k
theorem w_iR1e {n : Int} {R : It → Hp → Prop} (h1 : -(2 ^ 62) ≤ n) (h2 : n < 2 ^ 62) (k : R (Itr 0 n.toNat) H) : Rg1 R [V.int n] H := ⟨n, rfl, h1, h2, k⟩
theorem w_iR2 {R : It → Hp → Prop} (k : ta σ H fun vs H1 => Rg2 R vs H1) : iRng2 ta σ H R := k
theorem w_iR2e {m n : Int} {R : It → Hp → Prop} (h : -(2 ^ 62) ≤ m ∧ m < 2 ^ 62 ∧ -(2 ^ 62) ≤ n ∧ n < 2 ^ 62) (k : R (Itr m (n - m).toNat) H) : Rg2 R [V.int m, V.int n] H := ⟨m, n, rfl, h, k⟩
theorem w_iL {R : It → Hp → Prop} (k : te σ H fun x H1 => LsE K R x H1) : iList K te σ H R := k
theorem w_iLe {a : Addr} {xs : List V} {R : It → Hp → Prop} (h : SqL K H a xs) (k : R (Itl K a) H) : LsE K R (.ref a) H := ⟨a, rfl, ⟨xs, h⟩, k⟩
theorem w_iT {R : It → Hp → Prop} (k : te σ H fun x H1 => TpE K R x H1) : iTup K te σ H R := k
theorem w_iTe {a : Addr} {xs : List V} {R : It → Hp → Prop} (h : SqT K H a xs) (k : R (Itt K a) H) : TpE K R (.ref a) H := ⟨a, rfl, ⟨xs, h⟩, k⟩
theorem loopR {lo : Int} {n : Nat} (Pv : Nat → L2.St → Hp → Prop) (h0 : Pv 0 σ H) (hs : ∀ i σ H, i < n → Pv i σ H → g (.int (lo + i)) σ H fun σ2 H2 => tb (En (Pv (i + 1)) (RT D) (NX D) (Pv (i + 1))) σ2 H2)
    (hd : ∀ σ H, Pv n σ H → NX D σ H) : Loop (Itr lo n) g tb D σ H := for_range Pv h0 hs hd
theorem loopL {a : Addr} {xs : List V} (Pv : Nat → L2.St → Hp → Prop) (h0 : Pv 0 σ H) (hl : ∀ i σ H, i ≤ xs.length → Pv i σ H → SqL K H a xs)
    (hs : ∀ i x σ H, xs[i]? = some x → Pv i σ H → g x σ H fun σ2 H2 => tb (En (Pv (i + 1)) (RT D) (NX D) (Pv (i + 1))) σ2 H2) (hd : ∀ σ H, Pv xs.length σ H → NX D σ H) : Loop (Itl K a) g tb D σ H := for_list Pv h0 hl hs hd
theorem loopT {a : Addr} {xs : List V} (Pv : Nat → L2.St → Hp → Prop) (h0 : Pv 0 σ H) (hl : ∀ i σ H, i ≤ xs.length → Pv i σ H → SqT K H a xs)
    (hs : ∀ i x σ H, xs[i]? = some x → Pv i σ H → g x σ H fun σ2 H2 => tb (En (Pv (i + 1)) (RT D) (NX D) (Pv (i + 1))) σ2 H2) (hd : ∀ σ H, Pv xs.length σ H → NX D σ H) : Loop (Itt K a) g tb D σ H := for_tup Pv h0 hl hs hd
def WT (Pv : Nat → L2.St → Hp → Prop) (m : Nat) (tb : TS) (D : Ends) (σ : L2.St) (H : Hp) : Prop := ∃ N : L2.St → Hp → Prop, (∀ σ' H', N σ' H' → ∃ m', m' < m ∧ Pv m' σ' H') ∧ tb { D with nx := N, ct := N, bk := D.nx } σ H
def WN (Pv : Nat → L2.St → Hp → Prop) (m : Nat) : L2.St → Hp → Prop := fun σ2 H2 => ∃ m', m' < m ∧ Pv m' σ2 H2
theorem w_wt {Pv : Nat → L2.St → Hp → Prop} {m : Nat} (k : tb (En (WN Pv m) (RT D) (NX D) (WN Pv m)) σ H) : WT Pv m tb D σ H := ⟨_, fun _ _ z => z, k⟩
theorem w_while (Pv : Nat → L2.St → Hp → Prop) (m0 : Nat) (h0 : Pv m0 σ H)
    (hs : ∀ m σ' H', Pv m σ' H' → c σ' H' fun b H1 => if b = true then WT Pv m tb D σ' H1 else NX D σ' H1) : tWhile c tb D σ H := ⟨Pv, ⟨m0, h0⟩, hs⟩
end
/-! ### list comprehensions -/
def LcL (J : It) (g : TG) (tt : TT) (te : TE) (vs : List Nat) (σ : L2.St) (H1 : Hp) (Q : VK) : Prop := ∀ D, H1 D = none → ∃ W : Nat → Nat → Hp → Prop, (∃ m, W 0 m (upd H1 D (.lst []))) ∧ ∀ i m H, W i m H →
  (J.stop i H ∧ Q (.ref D) H) ∨ (J.go i H ∧ ∃ Nx : Hp → Prop, (∀ H', Nx H' → ∃ m', m' < m ∧ W (i + 1) m' H') ∧ ∀ x H', J.yld i H x H' → g x (wipe σ vs) H' fun σ2 H2 => wipe σ2 vs = wipe σ vs ∧ tt σ2 H2 fun b H3 =>
    if b = true then te σ2 H3 fun y H4 => ∃ acc, H4 D = some (.lst acc) ∧ acc.length < sizeLine ∧ Nx (upd H4 D (.lst (acc ++ [y]))) else Nx H3)
def LcEnd (D : Addr) (y : V) (R : Hp → Prop) (H : Hp) : Prop := ∃ acc, H D = some (.lst acc) ∧ acc.length < sizeLine ∧ R (upd H D (.lst (acc ++ [y])))
def LcGo (vs : List Nat) (σ σ2 : L2.St) (R : Prop) : Prop := wipe σ2 vs = wipe σ vs ∧ R
section
variable {σ : L2.St} {H : Hp} {Q : VK} {g : TG} {tt : TT} {te : TE} {vs : List Nat} {K : PySem.W.Frag}
theorem w_lc {wi : TI} (k : wi σ H fun J H1 => LcL J g tt te vs σ H1 Q) : tLc wi g tt te vs σ H Q := k
theorem w_lcEnd {D : Addr} {y : V} {acc : List V} {R : Hp → Prop} (h : H D = some (.lst acc)) (z : acc.length < sizeLine) (k : ∀ H', Kp D H H' → H' D = some (.lst (acc ++ [y])) → R H') : LcEnd D y R H := ⟨acc, h, z, k _ kp_upd upd_same⟩
theorem w_lcGo {σ2 : L2.St} {R : Prop} (e : wipe σ2 vs = wipe σ vs) (k : R) : LcGo vs σ σ2 R := ⟨e, k⟩
theorem w_yes {QT : Bool → Hp → Prop} (k : QT true H) : tYes σ H QT := k
theorem lcR {lo : Int} {n : Nat} (Pv : Addr → Nat → Hp → Prop) (h0 : ∀ D H', H D = none → Sm H H' → H' D = some (.lst []) → Pv D 0 H')
    (hs : ∀ D i H', H D = none → i < n → Pv D i H' → g (.int (lo + i)) (wipe σ vs) H' fun σ2 H2 => LcGo vs σ σ2 (tt σ2 H2 fun b H3 => if b = true then te σ2 H3 fun y H4 => LcEnd D y (Pv D (i + 1)) H4 else Pv D (i + 1) H3))
    (hd : ∀ D H', H D = none → Pv D n H' → Q (.ref D) H') : LcL (Itr lo n) g tt te vs σ H Q := fun D hD =>
  lc_range (Pv D) (h0 D _ hD (sm_new hD) upd_same) (fun i H' hi p => hs D i H' hD hi p) (fun H' p => hd D H' hD p)
theorem lcLs {a : Addr} {xs : List V} (Pv : Addr → Nat → Hp → Prop) (h0 : ∀ D H', H D = none → Sm H H' → H' D = some (.lst []) → Pv D 0 H') (hl : ∀ D i H', H D = none → i ≤ xs.length → Pv D i H' → SqL K H' a xs)
    (hs : ∀ D i x H', H D = none → xs[i]? = some x → Pv D i H' → g x (wipe σ vs) H' fun σ2 H2 => LcGo vs σ σ2 (tt σ2 H2 fun b H3 => if b = true then te σ2 H3 fun y H4 => LcEnd D y (Pv D (i + 1)) H4 else Pv D (i + 1) H3))
    (hd : ∀ D H', H D = none → Pv D xs.length H' → Q (.ref D) H') : LcL (Itl K a) g tt te vs σ H Q := fun D hD =>
  lc_list (xs := xs) (Pv D) (h0 D _ hD (sm_new hD) upd_same) (fun i H' hi p => hl D i H' hD hi p) (fun i x H' hi p => hs D i x H' hD hi p) (fun H' p => hd D H' hD p)
theorem lcTp {a : Addr} {xs : List V} (Pv : Addr → Nat → Hp → Prop) (h0 : ∀ D H', H D = none → Sm H H' → H' D = some (.lst []) → Pv D 0 H') (hl : ∀ D i H', H D = none → i ≤ xs.length → Pv D i H' → SqT K H' a xs)
    (hs : ∀ D i x H', H D = none → xs[i]? = some x → Pv D i H' → g x (wipe σ vs) H' fun σ2 H2 => LcGo vs σ σ2 (tt σ2 H2 fun b H3 => if b = true then te σ2 H3 fun y H4 => LcEnd D y (Pv D (i + 1)) H4 else Pv D (i + 1) H3))
    (hd : ∀ D H', H D = none → Pv D xs.length H' → Q (.ref D) H') : LcL (Itt K a) g tt te vs σ H Q := fun D hD =>
  lc_tup (xs := xs) (Pv D) (h0 D _ hD (sm_new hD) upd_same) (fun i H' hi p => hl D i H' hD hi p) (fun i x H' hi p => hs D i x H' hD hi p) (fun H' p => hd D H' hD p)
end
/-! ### keywords -/
theorem rel_0 {r1 : List Value} (h : Vals [] r1) : r1 = [] := by cases h; rfl
theorem rel_1 {x : V} {xs : List V} {us : List Value} (h : Vals (x :: xs) us) : ∃ u vs, us = u :: vs ∧ RelV x u ∧ Vals xs vs := by
  cases h with
  | cons a b => exact ⟨_, _, rfl, a, b⟩
/-! ### steps -/
section
variable {σ : L2.St} {H : Hp} {Q : VK} {QT : Bool → Hp → Prop} {QA : List V → Hp → Prop} {D : Ends} {K : PySem.W.Frag} {te ta tb : TE} {tt tu : TT} {t1 t2 : TS} {v x y : V} {i j : Int} {b : Bool}
theorem w_var {n : Nat} (h : σ[n]? = some (some v)) (k : Q v H) : tVar n σ H Q := ⟨v, h, k⟩
theorem w_c (k : Q v H) : tC v σ H Q := k
theorem w_op {r : R2} (k : ta σ H fun x H1 => tb σ H1 fun y H2 => r x y H2 Q) : tOp r ta tb σ H Q := k
theorem w_un {r : V → Hp → VK → Prop} (k : ta σ H fun x H1 => r x H1 Q) : tUn r ta σ H Q := k
theorem w_rU {g : Int → V} (k : Q (g i) H) : rU g (.int i) H Q := ⟨i, rfl, k⟩
theorem inV_S2 {s a c : Str} : inV (.str s) [.str a, .str c] = decide (s = a ∨ s = c) := by
  show ((a == s) || ((c == s) || false)) = _
  rw [Bool.or_false]
  by_cases h1 : s = a
  · subst h1; simp
  · by_cases h2 : s = c
    · subst h2; simp
    · have e1 : (a == s) = false := by simpa using fun e : a = s => h1 e.symm
      have e2 : (c == s) = false := by simpa using fun e : c = s => h2 e.symm
      rw [e1, e2, decide_eq_false (by rintro (h | h); exact h1 h; exact h2 h)]
      rfl
theorem w_inS2 {p : Addr} {s a c : Str} (h : SqT K H p [.str a, .str c]) (k : Q (.bl (decide (s = a ∨ s = c))) H) : rIn K false (.str s) (.ref p) H Q := ⟨p, _, rfl, .inr h, rfl, rfl, by rw [inV_S2]; exact k⟩
theorem w_niS2 {p : Addr} {s a c : Str} (h : SqT K H p [.str a, .str c]) (k : Q (.bl (!decide (s = a ∨ s = c))) H) : rIn K true (.str s) (.ref p) H Q := ⟨p, _, rfl, .inr h, rfl, rfl, by rw [inV_S2]; exact k⟩
theorem w_cb {r : List V → Hp → VK → Prop} {t : TA} (k : t σ H fun vs H1 => r vs H1 Q) : tCB r t σ H Q := k
theorem w_nil (k : QA [] H) : tNil σ H QA := k
theorem w_cons {tr : TA} (k : ta σ H fun x H1 => tr σ H1 fun xs H2 => QA (x :: xs) H2) : tCons ta tr σ H QA := k
def NewL (xs : List V) (H : Hp) (Q : VK) : Prop := xs.length ≤ sizeLine ∧ ∀ p, H p = none → Q (.ref p) (upd H p (.lst xs))
def NewT (xs : List V) (H : Hp) (Q : VK) : Prop := xs.length ≤ sizeLine ∧ ∀ p, H p = none → Q (.ref p) (upd H p (.tup xs))
theorem w_lst {t : TA} (k : t σ H fun xs H1 => NewL xs H1 Q) : tLst t σ H Q := k
theorem w_tup {t : TA} (k : t σ H fun xs H1 => NewT xs H1 Q) : tTup t σ H Q := k
theorem w_newL {xs : List V} (z : xs.length ≤ sizeLine) (k : ∀ p H', H p = none → Sm H H' → H' p = some (.lst xs) → Q (.ref p) H') : NewL xs H Q := ⟨z, fun p hp => k p _ hp (sm_new hp) upd_same⟩
theorem w_newT {xs : List V} (z : xs.length ≤ sizeLine) (k : ∀ p H', H p = none → Sm H H' → H' p = some (.tup xs) → Q (.ref p) H') : NewT xs H Q := ⟨z, fun p hp => k p _ hp (sm_new hp) upd_same⟩
theorem w_call {sp : Sp} {E : XK} {t : TA} (k : t σ H fun vs H1 => SpC sp vs H1 Q E) : tCall sp [] E t σ H Q := k
theorem w_sp {sp : Sp} {E : XK} {vs : List V} (k : sp vs H Q E) : SpC sp vs H Q E := by unfold SpC; rw [List.append_nil]; exact k
theorem w_callK {sp : Sp} {gV : List V → List V → List V} {E : XK} {t tk : TA} (k : t σ H fun vs H1 => tk σ H1 fun zs H2 => sp (gV vs zs) H2 Q E) : tCallK sp gV E t tk σ H Q := k
/-! values of operations -/
theorem w_ixL' {p : Addr} {xs : List V} (h : SqL K H p xs) (a : atI xs i = some v) (k : Q v H) : rIx K (.ref p) (.int i) H Q := .inl ⟨p, xs, i, v, rfl, rfl, h, a, k⟩
theorem w_addI (k : Q (.int (i + j)) H) : gAdd K (.int i) (.int j) H Q := .inl ⟨i, j, rfl, rfl, k⟩
theorem w_addS {a b : Str} (z : a.length + b.length ≤ sizeLine) (k : Q (.str (a ++ b)) H) : gAdd K (.str a) (.str b) H Q := .inr (.inl ⟨a, b, rfl, rfl, z, k⟩)
theorem w_addL {l m : Addr} {xs ys : List V} (h1 : H l = some (.lst xs)) (h2 : H m = some (.lst ys)) (z : xs.length + ys.length ≤ sizeLine) (k : ∀ p H', H p = none → Sm H H' → H' p = some (.lst (xs ++ ys)) → Q (.ref p) H') :
    gAdd K (.ref l) (.ref m) H Q := .inr (.inr (.inl ⟨l, m, xs, ys, rfl, rfl, h1, h2, z, fun p hp => k p _ hp (sm_new hp) upd_same⟩))
theorem w_I0 {g : Int → Int → V} (k : Q (g i j) H) : rI0 g (.int i) (.int j) H Q := ⟨i, j, rfl, rfl, k⟩
theorem w_I {C : Int → Int → Prop} {g : Int → Int → V} (c : C i j) (k : Q (g i j) H) : rI C g (.int i) (.int j) H Q := ⟨i, j, rfl, rfl, c, k⟩
theorem w_mulI (c : CM i j) (k : Q (.int (i * j)) H) : gMul (.int i) (.int j) H Q := by
  rcases c with c | c
  · exact .inl ⟨i, j, rfl, rfl, c, k⟩
  · exact .inr (.inl ⟨i, j, rfl, rfl, c, k⟩)
theorem w_divI (c : CDivW i j) (k : Q (.int (i / j)) H) : gDiv (.int i) (.int j) H Q := ⟨i, j, rfl, rfl, c, k⟩
theorem w_modI (c : 0 < j) (k : Q (.int (i % j)) H) : gMod (.int i) (.int j) H Q := ⟨i, j, rfl, rfl, c, k⟩
theorem w_modF (c : 0 < j) (k : ∀ z : Int, z = i % j → 0 ≤ z → z < j → (0 ≤ i → z ≤ i) → Q (.int z) H) : gMod (.int i) (.int j) H Q :=
  w_modI c (k _ rfl (Int.emod_nonneg _ (Int.ne_of_gt c)) (Int.emod_lt_of_pos _ c) fun h => by
    by_cases h2 : i < j
    · rw [Int.emod_eq_of_lt h h2]; exact Int.le_refl _
    · have := Int.emod_lt_of_pos i c
      omega)
theorem w_shlI (c : CShl i j) (k : Q (.int (i * 2 ^ j.toNat)) H) : gShl (.int i) (.int j) H Q := ⟨i, j, rfl, rfl, c, k⟩
theorem w_powI (c : CPow i j) (k : Q (.int (i ^ j.toNat)) H) : gPow (.int i) (.int j) H Q := ⟨i, j, rfl, rfl, c, k⟩
theorem w_shr1 (k : Q (.int (i / 2)) H) : gShr (.int i) (.int 1) H Q := ⟨i, 1, rfl, rfl, (show (0 : Int) ≤ 1 by decide), (show Q (.int (i / 2 ^ Int.toNat 1)) H from k)⟩
theorem w_iaddI (k : Q (.int (i + j)) H) : gIAdd (.int i) (.int j) H Q := .inl ⟨i, j, rfl, rfl, k⟩
theorem w_iaddS {a b : Str} (z : a.length + b.length ≤ sizeLine) (k : Q (.str (a ++ b)) H) : gIAdd (.str a) (.str b) H Q := .inr ⟨a, b, rfl, rfl, z, k⟩
theorem w_imulI (c : CM i j) (k : Q (.int (i * j)) H) : gIMul (.int i) (.int j) H Q := by
  rcases c with c | c
  · exact .inl ⟨i, j, rfl, rfl, c, k⟩
  · exact .inr ⟨i, j, rfl, rfl, c, k⟩
theorem w_xorI (k : Q (.int (Builtin.bitXor i j)) H) : gXor (.int i) (.int j) H Q := ⟨i, j, rfl, rfl, k⟩
theorem w_isiIb (k : Q (.bl false) H) : rIsi K [.int i, .ty "bool"] H Q := ⟨_, _, _, _, _, rfl, .ty _, .base (.int _), kit_ty (by decide +kernel), k⟩
theorem w_isiIi (k : Q (.bl true) H) : rIsi K [.int i, .ty "int"] H Q := ⟨_, _, _, _, _, rfl, .ty _, .base (.int _), kit_ty (by decide +kernel), k⟩
theorem w_isiBb (k : Q (.bl true) H) : rIsi K [.bl b, .ty "bool"] H Q := ⟨_, _, _, _, _, rfl, .ty _, .base (.bl _), kit_ty (by decide +kernel), k⟩
theorem w_isiSs {s : Str} (k : Q (.bl true) H) : rIsi K [.str s, .ty "str"] H Q := ⟨_, _, _, _, _, rfl, .ty _, .base (.str _), kit_ty (by decide +kernel), k⟩
theorem w_isiTup {a : Addr} {xs : List V} (h : H a = some (.tup xs)) (k : Q (.bl true) H) : rIsi K [.ref a, .ty "tuple"] H Q := ⟨_, _, _, _, _, rfl, .ty _, .base (.tup h), kit_ty (by decide +kernel), k⟩
theorem w_ixInts {p : Addr} {ns : List Int} (h : SqL K H p (ns.map V.int)) (h0 : 0 ≤ i) (h1 : i < ((ns.map V.int).length : Int)) (k : ∀ n : Int, n ∈ ns → Q (.int n) H) : rIx K (.ref p) (.int i) H Q := by
  obtain ⟨j, rfl⟩ := Int.eq_ofNat_of_zero_le h0
  have h2 : j < ns.length := by rw [List.length_map] at h1; omega
  exact w_ixL' h (atI_nat (by rw [List.getElem?_map, List.getElem?_eq_getElem h2]; rfl)) (k _ (List.getElem_mem h2))
theorem w_ix2I {p : Addr} {x y : Int} (h : SqL K H p [.int x, .int y]) (h0 : 0 ≤ i) (h1 : i < 2) (k : ∀ z : Int, i = 0 ∧ z = x ∨ i = 1 ∧ z = y → Q (.int z) H) : rIx K (.ref p) (.int i) H Q := by
  rcases (show i = 0 ∨ i = 1 by omega) with rfl | rfl
  · exact w_ixL' h (atI_nat (j := 0) rfl) (k _ (.inl ⟨rfl, rfl⟩))
  · exact w_ixL' h (atI_nat (j := 1) rfl) (k _ (.inr ⟨rfl, rfl⟩))
theorem w_ix3I {p : Addr} {x0 x1 x2 : Int} (h : SqL K H p [.int x0, .int x1, .int x2]) (h0 : 0 ≤ i) (h1 : i < 3) (k : ∀ z : Int, z = x0 ∨ z = x1 ∨ z = x2 → Q (.int z) H) : rIx K (.ref p) (.int i) H Q := by
  rcases (show i = 0 ∨ i = 1 ∨ i = 2 by omega) with rfl | rfl | rfl
  · exact w_ixL' h (atI_nat (j := 0) rfl) (k _ (by omega))
  · exact w_ixL' h (atI_nat (j := 1) rfl) (k _ (by omega))
  · exact w_ixL' h (atI_nat (j := 2) rfl) (k _ (by omega))
theorem w_ix4I {p : Addr} {x0 x1 x2 x3 : Int} (h : SqL K H p [.int x0, .int x1, .int x2, .int x3]) (h0 : 0 ≤ i) (h1 : i < 4) (k : ∀ z : Int, z = x0 ∨ z = x1 ∨ z = x2 ∨ z = x3 → Q (.int z) H) : rIx K (.ref p) (.int i) H Q := by
  rcases (show i = 0 ∨ i = 1 ∨ i = 2 ∨ i = 3 by omega) with rfl | rfl | rfl | rfl
  · exact w_ixL' h (atI_nat (j := 0) rfl) (k _ (by omega))
  · exact w_ixL' h (atI_nat (j := 1) rfl) (k _ (by omega))
  · exact w_ixL' h (atI_nat (j := 2) rfl) (k _ (by omega))
  · exact w_ixL' h (atI_nat (j := 3) rfl) (k _ (by omega))
theorem w_ix5I {p : Addr} {x0 x1 x2 x3 x4 : Int} (h : SqL K H p [.int x0, .int x1, .int x2, .int x3, .int x4]) (h0 : 0 ≤ i) (h1 : i < 5) (k : ∀ z : Int, z = x0 ∨ z = x1 ∨ z = x2 ∨ z = x3 ∨ z = x4 → Q (.int z) H) : rIx K (.ref p) (.int i) H Q := by
  rcases (show i = 0 ∨ i = 1 ∨ i = 2 ∨ i = 3 ∨ i = 4 by omega) with rfl | rfl | rfl | rfl | rfl
  · exact w_ixL' h (atI_nat (j := 0) rfl) (k _ (by omega))
  · exact w_ixL' h (atI_nat (j := 1) rfl) (k _ (by omega))
  · exact w_ixL' h (atI_nat (j := 2) rfl) (k _ (by omega))
  · exact w_ixL' h (atI_nat (j := 3) rfl) (k _ (by omega))
  · exact w_ixL' h (atI_nat (j := 4) rfl) (k _ (by omega))
theorem w_ix6I {p : Addr} {x0 x1 x2 x3 x4 x5 : Int} (h : SqL K H p [.int x0, .int x1, .int x2, .int x3, .int x4, .int x5]) (h0 : 0 ≤ i) (h1 : i < 6) (k : ∀ z : Int, z = x0 ∨ z = x1 ∨ z = x2 ∨ z = x3 ∨ z = x4 ∨ z = x5 → Q (.int z) H) : rIx K (.ref p) (.int i) H Q := by
  rcases (show i = 0 ∨ i = 1 ∨ i = 2 ∨ i = 3 ∨ i = 4 ∨ i = 5 by omega) with rfl | rfl | rfl | rfl | rfl | rfl
  · exact w_ixL' h (atI_nat (j := 0) rfl) (k _ (by omega))
  · exact w_ixL' h (atI_nat (j := 1) rfl) (k _ (by omega))
  · exact w_ixL' h (atI_nat (j := 2) rfl) (k _ (by omega))
  · exact w_ixL' h (atI_nat (j := 3) rfl) (k _ (by omega))
  · exact w_ixL' h (atI_nat (j := 4) rfl) (k _ (by omega))
  · exact w_ixL' h (atI_nat (j := 5) rfl) (k _ (by omega))
theorem w_ix7I {p : Addr} {x0 x1 x2 x3 x4 x5 x6 : Int} (h : SqL K H p [.int x0, .int x1, .int x2, .int x3, .int x4, .int x5, .int x6]) (h0 : 0 ≤ i) (h1 : i < 7) (k : ∀ z : Int, z = x0 ∨ z = x1 ∨ z = x2 ∨ z = x3 ∨ z = x4 ∨ z = x5 ∨ z = x6 → Q (.int z) H) : rIx K (.ref p) (.int i) H Q := by
  rcases (show i = 0 ∨ i = 1 ∨ i = 2 ∨ i = 3 ∨ i = 4 ∨ i = 5 ∨ i = 6 by omega) with rfl | rfl | rfl | rfl | rfl | rfl | rfl
  · exact w_ixL' h (atI_nat (j := 0) rfl) (k _ (by omega))
  · exact w_ixL' h (atI_nat (j := 1) rfl) (k _ (by omega))
  · exact w_ixL' h (atI_nat (j := 2) rfl) (k _ (by omega))
  · exact w_ixL' h (atI_nat (j := 3) rfl) (k _ (by omega))
  · exact w_ixL' h (atI_nat (j := 4) rfl) (k _ (by omega))
  · exact w_ixL' h (atI_nat (j := 5) rfl) (k _ (by omega))
  · exact w_ixL' h (atI_nat (j := 6) rfl) (k _ (by omega))
theorem w_ix8I {p : Addr} {x0 x1 x2 x3 x4 x5 x6 x7 : Int} (h : SqL K H p [.int x0, .int x1, .int x2, .int x3, .int x4, .int x5, .int x6, .int x7]) (h0 : 0 ≤ i) (h1 : i < 8) (k : ∀ z : Int, z = x0 ∨ z = x1 ∨ z = x2 ∨ z = x3 ∨ z = x4 ∨ z = x5 ∨ z = x6 ∨ z = x7 → Q (.int z) H) : rIx K (.ref p) (.int i) H Q := by
  rcases (show i = 0 ∨ i = 1 ∨ i = 2 ∨ i = 3 ∨ i = 4 ∨ i = 5 ∨ i = 6 ∨ i = 7 by omega) with rfl | rfl | rfl | rfl | rfl | rfl | rfl | rfl
  · exact w_ixL' h (atI_nat (j := 0) rfl) (k _ (by omega))
  · exact w_ixL' h (atI_nat (j := 1) rfl) (k _ (by omega))
  · exact w_ixL' h (atI_nat (j := 2) rfl) (k _ (by omega))
  · exact w_ixL' h (atI_nat (j := 3) rfl) (k _ (by omega))
  · exact w_ixL' h (atI_nat (j := 4) rfl) (k _ (by omega))
  · exact w_ixL' h (atI_nat (j := 5) rfl) (k _ (by omega))
  · exact w_ixL' h (atI_nat (j := 6) rfl) (k _ (by omega))
  · exact w_ixL' h (atI_nat (j := 7) rfl) (k _ (by omega))
theorem w_mulS {a : Str} (c : MulOk a i) (k : Q (.str (Txt.mul a i)) H) : gMulS (.str a) (.int i) H Q := ⟨a, i, rfl, rfl, c, k⟩
theorem shl1_ok (h0 : 0 ≤ j) (h : j ≤ 1000000) : CShl 1 j := by
  refine ⟨h0, ?_⟩
  have : Builtin.Int.intBits 1 ≤ 1 := intBits_le (by decide)
  omega
theorem pow_bd {m : Nat} (h : j ≤ (m : Int)) : 1 ≤ 1 * (2 : Int) ^ j.toNat ∧ 1 * (2 : Int) ^ j.toNat ≤ 2 ^ m ∧ (1 ≤ j → 2 ≤ 1 * (2 : Int) ^ j.toNat) := by
  have e : ∀ n : Nat, (2 : Int) ^ n = ((2 ^ n : Nat) : Int) := fun n => by rw [Int.natCast_pow]; rfl
  have h1 : 2 ^ j.toNat ≤ 2 ^ m := Nat.pow_le_pow_right (by decide) (by omega)
  have h2 : 0 < 2 ^ j.toNat := Nat.two_pow_pos _
  rw [Int.one_mul, e, e]
  refine ⟨by omega, by omega, fun hj => ?_⟩
  have h3 : 2 ^ 1 ≤ 2 ^ j.toNat := Nat.pow_le_pow_right (by decide) (by omega)
  omega
theorem and_nat {a b : Nat} : Builtin.bitAnd (a : Int) (b : Int) = ((a &&& b : Nat) : Int) := by
  have h := bitAnd_pp (Int.natCast_nonneg a) (Int.natCast_nonneg b)
  rw [Int.toNat_natCast, Int.toNat_natCast] at h
  exact h
theorem and_bd (h0 : 0 ≤ i) (h1 : 0 ≤ j) : 0 ≤ Builtin.bitAnd i j ∧ Builtin.bitAnd i j ≤ i ∧ Builtin.bitAnd i j ≤ j := by
  obtain ⟨a, rfl⟩ := Int.eq_ofNat_of_zero_le h0
  obtain ⟨b, rfl⟩ := Int.eq_ofNat_of_zero_le h1
  rw [and_nat]
  have e1 := @Nat.and_le_left a b
  have e2 := @Nat.and_le_right a b
  omega
def gOr : R2 := rI0 fun i j => .int (Builtin.bitOr i j)
theorem op_gOr {X : Cx} : OpR X (binaryOp .BitOr) gOr := L2.op_or
theorem w_orF (h0 : 0 ≤ i) (h1 : 0 ≤ j) (k : ∀ z : Int, z = Builtin.bitOr i j → 0 ≤ z → z ≤ i + j → Q (.int z) H) : gOr (.int i) (.int j) H Q := ⟨i, j, rfl, rfl, k _ rfl (by rw [L2.bitOr_nn h0 h1]; exact Int.natCast_nonneg _) (by rw [bitOr_and]; have := (and_bd h0 h1).1; omega)⟩
theorem dV_bl {s t : Bool} : decide (V.bl s = V.bl t) = decide (s = t) := by cases s <;> cases t <;> rfl
theorem w_eqB {s t : Bool} (k : Q (.bl (decide (s = t))) H) : gEq K (.bl s) (.bl t) H Q := .inl ⟨rfl, by rw [dV_bl]; exact k⟩
theorem w_neB {s t : Bool} (k : Q (.bl (!decide (s = t))) H) : gNe K (.bl s) (.bl t) H Q := .inl ⟨rfl, by rw [dV_bl]; exact k⟩
def gIs : R2 := fun x y H Q => y = .non ∧ Q (.bl (decide (x = .non))) H
def gNot : R2 := fun x y H Q => y = .non ∧ Q (.bl (!decide (x = .non))) H
theorem op_gIs {X : Cx} : OpR X (compareOp .Is) gIs := op_isN
theorem op_gNot {X : Cx} : OpR X (compareOp .IsNot) gNot := op_notN
theorem op_gIsB {X : Cx} : OpR X (compareOp .Is) rIsB := op_isBl
theorem op_gNotB {X : Cx} : OpR X (compareOp .IsNot) rNotB := op_notBl
theorem w_isN0 (k : Q (.bl true) H) : gIs .non .non H Q := ⟨rfl, by simpa using k⟩
theorem w_notN0 (k : Q (.bl false) H) : gNot .non .non H Q := ⟨rfl, by simpa using k⟩
theorem w_isNx (h : x ≠ .non) (k : Q (.bl false) H) : gIs x .non H Q := ⟨rfl, by rw [decide_eq_false h]; exact k⟩
theorem w_notNx (h : x ≠ .non) (k : Q (.bl true) H) : gNot x .non H Q := ⟨rfl, by rw [decide_eq_false h]; exact k⟩
theorem w_isBT (k : Q (.bl b) H) : rIsB (.bl b) (.bl true) H Q := ⟨b, true, rfl, rfl, by cases b <;> exact k⟩
theorem w_notBT (k : Q (.bl (!b)) H) : rNotB (.bl b) (.bl true) H Q := ⟨b, true, rfl, rfl, by cases b <;> exact k⟩
theorem w_sum {p : Addr} {ns : List Int} (h : SqL K H p (ns.map V.int)) (k : Q (.int ns.sum) H) : rSum K [.ref p] H Q := ⟨p, ns, rfl, h, k⟩
theorem w_all {p : Addr} {bs : List Bool} (h : SqL K H p (bs.map V.bl)) (k : Q (.bl (bs.all id)) H) : rAll K [.ref p] H Q := ⟨p, bs, rfl, h, k⟩
theorem w_shl1F (h0 : 0 ≤ j) (h : j ≤ 1000000) (k : ∀ z : Int, z = 2 ^ j.toNat → 1 ≤ z → (1 ≤ j → 2 ≤ z) → (j ≤ 9 → z ≤ 512) → (j ≤ 40 → z ≤ 1099511627776) → Q (.int z) H) : gShl (.int 1) (.int j) H Q := by
  obtain ⟨q1, q2, q3⟩ := pow_bd (j := j) (m := 1000000) (by omega)
  rw [Int.one_mul] at q1 q3
  refine w_shlI (shl1_ok h0 h) ?_
  rw [Int.one_mul]
  exact k _ rfl q1 q3 (fun h => by have := (pow_bd (j := j) (m := 9) (by omega)).2.1; rw [Int.one_mul] at this; omega) (fun h => by have := (pow_bd (j := j) (m := 40) (by omega)).2.1; rw [Int.one_mul] at this; omega)
theorem w_andF (h0 : 0 ≤ i) (h1 : 0 ≤ j) (k : ∀ z : Int, z = Builtin.bitAnd i j → 0 ≤ z → z ≤ i → z ≤ j → Q (.int z) H) : gAnd (.int i) (.int j) H Q := by
  obtain ⟨q1, q2, q3⟩ := and_bd h0 h1
  exact ⟨i, j, rfl, rfl, k _ rfl q1 q2 q3⟩
def BitsE (Q : VK) (x : V) (H : Hp) : Prop := ∃ i, x = .int i ∧ Q (.int (Builtin.Int.intBits i : Nat)) H
theorem w_bits {to : TE} (k : to σ H fun x H1 => BitsE Q x H1) : tBits to σ H Q := k
theorem bits_lt (i : Int) : i.natAbs < 2 ^ Builtin.Int.intBits i := by
  unfold Builtin.Int.intBits
  split
  · rename_i h
    have : i = 0 := by simpa using h
    subst this; decide
  · exact Nat.lt_log2_self
theorem w_bitsE (k : ∀ m : Nat, m = Builtin.Int.intBits i → i.natAbs < 2 ^ m → Q (.int m) H) : BitsE Q (.int i) H := ⟨i, rfl, k _ rfl (bits_lt i)⟩
theorem w_shrI (c : 0 ≤ j) (k : Q (.int (i / 2 ^ j.toNat)) H) : gShr (.int i) (.int j) H Q := ⟨i, j, rfl, rfl, c, k⟩
theorem w_andI (k : Q (.int (Builtin.bitAnd i j)) H) : gAnd (.int i) (.int j) H Q := ⟨i, j, rfl, rfl, k⟩
theorem w_ltI (k : Q (.bl (decide (i < j))) H) : gLt (.int i) (.int j) H Q := ⟨i, j, rfl, rfl, k⟩
theorem w_leI (k : Q (.bl (decide (i ≤ j))) H) : gLe (.int i) (.int j) H Q := ⟨i, j, rfl, rfl, k⟩
theorem w_gtI (k : Q (.bl (decide (j < i))) H) : gGt (.int i) (.int j) H Q := ⟨i, j, rfl, rfl, k⟩
theorem w_geI (k : Q (.bl (decide (j ≤ i))) H) : gGe (.int i) (.int j) H Q := ⟨i, j, rfl, rfl, k⟩
theorem dV_int : decide (V.int i = V.int j) = decide (i = j) := by
  by_cases h : i = j
  · subst h; simp
  · rw [decide_eq_false h, decide_eq_false (fun e => h (V.int.inj e))]
theorem dV_str {s t : Str} : decide (V.str s = V.str t) = decide (s = t) := by
  by_cases h : s = t
  · subst h; simp
  · rw [decide_eq_false h, decide_eq_false (fun e => h (V.str.inj e))]
theorem w_eqI (k : Q (.bl (decide (i = j))) H) : gEq K (.int i) (.int j) H Q := .inl ⟨rfl, by rw [dV_int]; exact k⟩
theorem w_neI (k : Q (.bl (!decide (i = j))) H) : gNe K (.int i) (.int j) H Q := .inl ⟨rfl, by rw [dV_int]; exact k⟩
theorem w_eqS {s t : Str} (k : Q (.bl (decide (s = t))) H) : gEq K (.str s) (.str t) H Q := .inl ⟨rfl, by rw [dV_str]; exact k⟩
theorem w_neS {s t : Str} (k : Q (.bl (!decide (s = t))) H) : gNe K (.str s) (.str t) H Q := .inl ⟨rfl, by rw [dV_str]; exact k⟩
theorem w_lenL {p : Addr} {xs : List V} (h : SqL K H p xs) (k : Q (.int (xs.length : Int)) H) : gLen K [.ref p] H Q := .inl ⟨p, xs, rfl, .inl h, k⟩
theorem w_lenT {p : Addr} {xs : List V} (h : SqT K H p xs) (k : Q (.int (xs.length : Int)) H) : gLen K [.ref p] H Q := .inl ⟨p, xs, rfl, .inr h, k⟩
theorem w_lenS {s : Str} (z : s.length ≤ sizeLine) (k : Q (.int (s.length : Int)) H) : gLen K [.str s] H Q := .inr ⟨s, rfl, z, k⟩
theorem w_intB (k1 : b = true → Q (.int 1) H) (k0 : b = false → Q (.int 0) H) : gIntC [.bl b] H Q := .inr ⟨b, rfl, by cases b; exact k0 rfl; exact k1 rfl⟩
theorem w_intD {c : Prop} [Decidable c] (k1 : c → Q (.int 1) H) (k0 : ¬ c → Q (.int 0) H) : gIntC [.bl (decide c)] H Q := w_intB (fun e => k1 (of_decide_eq_true e)) (fun e => k0 (of_decide_eq_false e))
theorem w_intDn {c : Prop} [Decidable c] (k1 : ¬ c → Q (.int 1) H) (k0 : c → Q (.int 0) H) : gIntC [.bl (!decide c)] H Q := w_intB (fun e => k1 (fun z => by rw [decide_eq_true z] at e; cases e)) (fun e => k0 (Decidable.byContradiction fun z => by rw [decide_eq_false z] at e; cases e))
theorem w_intI (k : Q (.int i) H) : gIntC [.int i] H Q := .inl ⟨i, rfl, k⟩
theorem w_max (k : Q (.int (max i j)) H) : gMax [.int i, .int j] H Q := ⟨i, j, rfl, by
  have e : (if j > i then j else i) = max i j := by split <;> omega
  rw [e]; exact k⟩
theorem w_min (k : Q (.int (min i j)) H) : gMin [.int i, .int j] H Q := ⟨i, j, rfl, by
  have e : (if j < i then j else i) = min i j := by split <;> omega
  rw [e]; exact k⟩
theorem w_ixL {p : Addr} {xs : List V} (h : SqL K H p xs) (a : atI xs i = some v) (k : Q v H) : rIx K (.ref p) (.int i) H Q := .inl ⟨p, xs, i, v, rfl, rfl, h, a, k⟩
theorem w_ixT {p : Addr} {xs : List V} (h : SqT K H p xs) (a : atI xs i = some v) (k : Q v H) : rIx K (.ref p) (.int i) H Q := .inr (.inl ⟨p, xs, i, v, rfl, rfl, h, a, k⟩)
theorem w_ixS {z : Str} {c : Nat} (h : z.length ≤ sizeLine) (a : atI z.cps.toList i = some c) (k : Q (.str ⟨#[c]⟩) H) : rIx K (.str z) (.int i) H Q := .inr (.inr ⟨z, i, c, rfl, rfl, h, a, k⟩)
/-! tests -/
theorem w_test (k : te σ H fun x H' => IsBl x fun k => QT k H') : tTest te σ H QT := k
theorem w_isbl {R : Bool → Prop} (k : R b) : IsBl (.bl b) R := ⟨b, rfl, k⟩
theorem w_B (k : te σ H fun x H' => IsBl x fun k => QT k H') : tB te σ H QT := k
theorem w_and (k : tt σ H fun c H1 => if c = true then tu σ H1 QT else QT false H1) : tAnd tt tu σ H QT := k
theorem w_or (k : tt σ H fun c H1 => if c = true then QT true H1 else tu σ H1 QT) : tOr tt tu σ H QT := k
theorem w_not (k : tt σ H fun c H1 => QT (!c) H1) : tNot tt σ H QT := k
theorem w_ife (k : tt σ H fun c H1 => if c = true then ta σ H1 Q else tb σ H1 Q) : tIf tt ta tb σ H Q := k
theorem w_andV (k : ta σ H fun x H1 => IsBl x fun c => if c = true then tb σ H1 Q else Q (.bl false) H1) : tAndV ta tb σ H Q := k
theorem w_orV (k : ta σ H fun x H1 => IsBl x fun c => if c = true then Q (.bl true) H1 else tb σ H1 Q) : tOrV ta tb σ H Q := k
theorem w_notV (k : ta σ H fun x H1 => IsBl x fun c => Q (.bl (!c)) H1) : tNotV ta σ H Q := k
theorem w_if {c A B : Prop} [Decidable c] (h1 : c → A) (h2 : ¬ c → B) : if decide c = true then A else B := by
  by_cases h : c
  · rw [decide_eq_true h]; exact h1 h
  · rw [decide_eq_false h]; exact h2 h
theorem w_ifn {c A B : Prop} [Decidable c] (h1 : ¬ c → A) (h2 : c → B) : if (!decide c) = true then A else B := by
  by_cases h : c
  · rw [decide_eq_true h]; exact h2 h
  · rw [decide_eq_false h]; exact h1 h
theorem w_ifnn {c A B : Prop} [Decidable c] (h1 : c → A) (h2 : ¬ c → B) : if (!!decide c) = true then A else B := by
  by_cases h : c
  · rw [decide_eq_true h]; exact h1 h
  · rw [decide_eq_false h]; exact h2 h
theorem w_ifY {c A B : Prop} [Decidable c] (h : c) (k : A) : if decide c = true then A else B := by rw [decide_eq_true h]; exact k
theorem w_ifZ {c A B : Prop} [Decidable c] (h : ¬ c) (k : B) : if decide c = true then A else B := by rw [decide_eq_false h]; exact k
theorem w_ifnY {c A B : Prop} [Decidable c] (h : c) (k : B) : if (!decide c) = true then A else B := by rw [decide_eq_true h]; exact k
theorem w_ifnZ {c A B : Prop} [Decidable c] (h : ¬ c) (k : A) : if (!decide c) = true then A else B := by rw [decide_eq_false h]; exact k
theorem w_intY {c : Prop} [Decidable c] (h : c) (k : Q (.int 1) H) : gIntC [.bl (decide c)] H Q := by rw [decide_eq_true h]; exact .inr ⟨true, rfl, k⟩
theorem w_intZ {c : Prop} [Decidable c] (h : ¬ c) (k : Q (.int 0) H) : gIntC [.bl (decide c)] H Q := by rw [decide_eq_false h]; exact .inr ⟨false, rfl, k⟩
theorem w_ifB {A B : Prop} (h1 : b = true → A) (h2 : b = false → B) : if b = true then A else B := by
  cases b
  · exact h2 rfl
  · exact h1 rfl
theorem w_ifT {A B : Prop} (h : A) : if true = true then A else B := h
theorem w_ifF {A B : Prop} (h : B) : if false = true then A else B := h
theorem w_ifNT {A B : Prop} (h : B) : if (!true) = true then A else B := h
theorem w_ifNF {A B : Prop} (h : A) : if (!false) = true then A else B := h
/-! statements -/
theorem w_seq {n c d : L2.St → Hp → Prop} {r : VK} (k : t1 (En (t2 (En n r c d)) r c d) σ H) : tSeq t1 t2 (En n r c d) σ H := k
theorem w_asg {n : Nat} (k : te σ H fun x H1 => NX D (σ.set n (some x)) H1) : tAsg te (gName n) D σ H := k
theorem w_asgG {g : TG} (k : te σ H fun x H1 => g x σ H1 (NX D)) : tAsg te g D σ H := k
def Par (n m : Nat) (D : Ends) (σ : L2.St) (vs : List V) (H : Hp) : Prop := ∃ v w, vs = [v, w] ∧ D.nx ((σ.set n (some v)).set m (some w)) H
theorem w_par {n m : Nat} {t : TA} (k : t σ H fun vs H1 => Par n m D σ vs H1) : tPar n m t D σ H := k
theorem w_parE {n m : Nat} (k : NX D ((σ.set n (some x)).set m (some y)) H) : Par n m D σ [x, y] H := ⟨x, y, rfl, k⟩
def Par3 (n m l : Nat) (D : Ends) (σ : L2.St) (vs : List V) (H : Hp) : Prop := ∃ u v w, vs = [u, v, w] ∧ D.nx (((σ.set n (some u)).set m (some v)).set l (some w)) H
theorem w_par3 {n m l : Nat} {t : TA} (k : t σ H fun vs H1 => Par3 n m l D σ vs H1) : tPar3 n m l t D σ H := k
theorem w_par3E {n m l : Nat} {z : V} (k : NX D (((σ.set n (some x)).set m (some y)).set l (some z)) H) : Par3 n m l D σ [x, y, z] H := ⟨x, y, z, rfl, k⟩
theorem w_aug {n : Nat} {ti : TIp} (h : σ[n]? = some (some x)) (k : te σ H fun y H1 => ti x y H1 fun z H2 => NX D (σ.set n (some z)) H2) : tAug n te ti D σ H := ⟨x, h, k⟩
theorem w_ret (k : te σ H fun v H1 => RT D v H1) : tRet te D σ H := k
theorem w_drop (k : te σ H fun _ H1 => NX D σ H1) : tDrop te D σ H := k
theorem w_ifs (k : tt σ H fun b H1 => if b = true then t1 D σ H1 else t2 D σ H1) : tIfS tt t1 t2 D σ H := k
theorem w_next (k : NX D σ H) : tNext D σ H := k
theorem w_nx {n c d : L2.St → Hp → Prop} {r : VK} (k : n σ H) : NX (En n r c d) σ H := k
theorem w_rt {n c d : L2.St → Hp → Prop} {r : VK} (k : r v H) : RT (En n r c d) v H := k
theorem w_start {n : L2.St → Hp → Prop} {r : VK} {t : TS} (k : t (En n r (fun _ _ => False) (fun _ _ => False)) σ H) : t { nx := n, rt := r } σ H := k
theorem w_gname {n : Nat} {R : L2.St → Hp → Prop} (k : R (σ.set n (some v)) H) : gName n v σ H R := k
theorem w_gnil {R : L2.St → Hp → Prop} (k : R σ H) : gNil [] σ H R := ⟨rfl, k⟩
theorem w_gcons {g : TG} {u : TGs} {r : List V} {R : L2.St → Hp → Prop} (k : g v σ H fun σ' H' => u r σ' H' R) : gCons g u (v :: r) σ H R := ⟨v, r, rfl, k⟩
theorem w_gtup {a : Addr} {xs : List V} {n : Nat} {u : TGs} {R : L2.St → Hp → Prop} (h : SqT K H a xs) (l : xs.length = n) (k : u xs σ H R) : gTup2 K n u (.ref a) σ H R := ⟨a, xs, rfl, h, l, k⟩
theorem w_gsub {to ti : TE} {t : TSet} {R : L2.St → Hp → Prop} (k : to σ H fun o H1 => ti σ H1 fun i H2 => t o i v H2 fun H3 => R σ H3) : gSub to ti t v σ H R := k
theorem w_setL {l : Addr} {xs : List V} {n : Nat} {R : Hp → Prop} (h : H l = some (.lst xs)) (e : ixN xs.length i = some n) (k : ∀ H', Kp l H H' → H' l = some (.lst (xs.set n v)) → R H') : rSetL (.ref l) (.int i) v H R :=
  ⟨l, xs, i, n, rfl, rfl, h, e, k _ kp_upd upd_same⟩
theorem w_bm {T : String} {r : V → List V → Hp → VK → Prop} {to : TE} {t : TA} (k : to σ H fun x H1 => BmE K T x H1 (t σ H1 fun xs H2 => r x xs H2 Q)) : tBM K T r to t σ H Q := k
theorem w_bmL {l : Addr} {xs : List V} {R : Prop} (h : H l = some (.lst xs)) (k : R) : BmE K "list" (.ref l) H R := ⟨.inl ⟨rfl, xs, Or.inl (Or.inl h)⟩, k⟩
theorem w_app {l : Addr} {xs : List V} (h : H l = some (.lst xs)) (z : xs.length < sizeLine) (k : ∀ H', Kp l H H' → H' l = some (.lst (xs ++ [v])) → Q .non H') : rAppend (.ref l) [v] H Q :=
  ⟨l, xs, v, rfl, rfl, h, z, k _ kp_upd upd_same⟩
theorem ty_list {l : Addr} {xs : List V} (h : H l = some (.lst xs)) : tyV K "list" (.ref l) H := .inl ⟨rfl, xs, sq_of h⟩
theorem w_slL {a : Addr} {xs : List V} {lo hi : Option Int} (h : SqL K H a xs) (k : ∀ p H', H p = none → Sm H H' → H' p = some (.lst (cutV xs lo hi)) → Q (.ref p) H') : gSl K (.ref a) lo hi H Q := .inl ⟨a, xs, rfl, h, fun p hp => k p _ hp (sm_new hp) upd_same⟩
theorem cut_whole {xs : List V} {lo hi : Option Int} (h : HT.sIx xs.length 0 lo = 0 ∧ HT.sIx xs.length xs.length hi = xs.length) : cutV xs lo hi = xs := by
  unfold cutV
  rw [h.1, h.2, List.drop_zero, Nat.sub_zero, List.take_length]
theorem w_slT {a : Addr} {xs : List V} {lo hi : Option Int} (h : H a = some (.tup xs)) (k : ∀ p H', Sm H H' → H' p = some (.tup (cutV xs lo hi)) → Q (.ref p) H') : gSl K (.ref a) lo hi H Q :=
  .inr ⟨a, xs, rfl, st_of h, fun w => k a H (Same.refl _) (by rw [cut_whole w]; exact h), fun _ p hp => k p _ (sm_new hp) upd_same⟩
theorem w_catT {a b : Addr} {xs ys : List V} (h1 : H a = some (.tup xs)) (h2 : H b = some (.tup ys)) (z : xs.length + ys.length ≤ sizeLine) (k : ∀ p H', Sm H H' → H' p = some (.tup (xs ++ ys)) → Q (.ref p) H') : gAdd K (.ref a) (.ref b) H Q :=
  .inr (.inr (.inr ⟨a, b, xs, ys, rfl, rfl, st_of h1, st_of h2, z, fun e => k b H (Same.refl _) (by rw [e]; exact h2), fun _ e => k a H (Same.refl _) (by rw [e, List.append_nil]; exact h1), fun _ _ p hp => k p _ (sm_new hp) upd_same⟩))
theorem w_sl {r : V → Option Int → Option Int → Hp → VK → Prop} {tl th : TO} (k : te σ H fun x H1 => tl σ H1 fun l H2 => th σ H2 fun u H3 => r x l u H3 Q) : tSl r te tl th σ H Q := k
theorem w_po0 {R : Option Int → Hp → Prop} (k : R none H) : tNoPart σ H R := k
theorem w_po1 {R : Option Int → Hp → Prop} (k : te σ H fun x H1 => PartE R x H1) : tPart te σ H R := k
theorem w_poE {R : Option Int → Hp → Prop} (k : R (some i) H) : PartE R (.int i) H := ⟨i, rfl, k⟩
theorem w_clear {l : Addr} {xs : List V} (h : H l = some (.lst xs)) (k : ∀ H', Kp l H H' → H' l = some (.lst []) → Q .non H') : tyV K "list" (.ref l) H ∧ rClear (.ref l) [] H Q :=
  ⟨ty_list h, l, xs, rfl, rfl, h, k _ kp_upd upd_same⟩
end
/-! a field read inside a comprehension: the context's K is named -/
theorem pe_fldK {X : Cx} {K : PySem.W.Frag} (hK : X.K = K) {e : Expr} {f : Str} {pos : Pos} {ta : TE} (he : PE X e ta) (hb : attributeBase e f X.env (eval e X.env) = eval e X.env) : PE X (.Attribute e f pos) (tFld K ta f) := by
  rw [← hK]
  exact pe_fld he hb
end Rs
namespace Rs
open PySem L2 PyProof.Rows PySem.NumText
/-! ### the walk's own words -/
local macro_rules | `(tactic| tm_at "rlk") => `(tactic| first | with_reducible assumption | ((refine' g_lk ?sg ?sh); (case sg => with_reducible assumption); (case sh => tm_at "rlk0")) | fail "no")
local macro_rules | `(tactic| tm_at "rlk0") => `(tactic| first | with_reducible assumption | (refine' Same.get ?sa ?sb; (case sa => with_reducible assumption); (case sb => tm_at "rlk0")) | (refine' Kp.get ?sa ?sc ?sb; (case sa => with_reducible assumption); (case sc => tm_at "rne"); (case sb => tm_at "rlk0")) | fail "no")
local macro_rules | `(tactic| tm_at "rne") => `(tactic| first | with_reducible assumption | (apply Ne.symm; assumption) | (refine' ne_new ?sa ?sb; (case sa => with_reducible assumption); (case sb => tm_at "rlk")) | (refine' ne_new2 ?sa ?sb; (case sa => with_reducible assumption); (case sb => tm_at "rlk")) | fail "no")
local macro_rules | `(tactic| tm_at "rsf") => `(tactic| first | with_reducible assumption | ((refine' g_sqf ?sg ?sh); (case sg => with_reducible assumption); (case sh => tm_at "rsf0")) | fail "no")
local macro_rules | `(tactic| tm_at "rsf0") => `(tactic| first | with_reducible assumption | ((refine' SqF.sm ?sa ?sb); (case sb => with_reducible assumption); (case sa => tm_at "rsf0")) | ((refine' SqF.kp ?sa ?sc ?sb); (case sb => with_reducible assumption); (case sc => tm_at "rlk"); (case sa => tm_at "rsf0")) | fail "no")
local macro_rules | `(tactic| tm_at "rsq") => `(tactic| first | with_reducible assumption | ((refine' SqF.sq ?sz); (case sz => tm_at "rsf")) | ((refine' sq_of ?sz); (case sz => tm_at "rlk")) | (refine' sm_sq ?sa ?sb; (case sa => with_reducible assumption); (case sb => tm_at "rsq")) | (refine' kp_sq ?sa ?sc ?sb; (case sa => with_reducible assumption); (case sc => tm_at "rne"); (case sb => tm_at "rsq")) | fail "no")
local macro_rules | `(tactic| tm_at "rst") => `(tactic| first | with_reducible assumption | ((refine' st_of ?sz); (case sz => tm_at "rlk")) | fail "no")
local macro_rules | `(tactic| tm_at "rat") => `(tactic| first | with_reducible assumption | exact atI_nat (j := 0) rfl | exact atI_nat (j := 1) rfl | exact atI_nat (j := 2) rfl | exact atI_nat (j := 3) rfl | exact atI_nat (j := 4) rfl | exact atI_nat (j := 5) rfl | fail "no")
local macro_rules | `(tactic| tm_at "rsz") => `(tactic| first | with_reducible assumption | exact sz_of (Nat.le_of_ble_eq_true rfl) | (apply sz_of; omega) | ((refine sz_of (Nat.le_trans (Nat.add_le_add_left (cutV_length _ _ _) _) ?_)); omega) | ((refine sz_of (Nat.le_trans (Nat.add_le_add_left (cutV_length _ _ _) _) ?_)); (simp only [List.length_cons, List.length_nil, List.length_append]); omega) | (apply sz_lt; omega) | ((apply sz_of); (simp only [List.length_cons, List.length_nil, List.length_append]); omega) | ((apply sz_lt); (simp only [List.length_cons, List.length_nil, List.length_append]); omega) | ((apply sz_of); (simp only [List.length_cons, List.length_nil, List.length_append, List.length_take, List.length_drop, List.length_map, List.length_replicate, List.length_set]); omega) | ((apply sz_lt); (simp only [List.length_cons, List.length_nil, List.length_append, List.length_take, List.length_drop, List.length_map, List.length_replicate, List.length_set]); omega) | decide | fail "no")
local macro_rules | `(tactic| tm_at "rc") => `(tactic| first | with_reducible assumption | exact .inl (.inl (by decide)) | exact .inl (.inr (by decide)) | exact .inl (.inl ⟨by omega, by omega⟩) | exact .inl (.inr ⟨by omega, by omega⟩) | fail "no")
local macro_rules | `(tactic| tm_at "rfr") => `(tactic| first | with_reducible assumption | ((refine' g_fr ?sg ?sh); (case sg => with_reducible assumption); (case sh => tm_at "rfr0")) | fail "no")
local macro_rules | `(tactic| tm_at "rfr0") => `(tactic| first | with_reducible assumption | ((refine' Same.free ?sa ?sb); (case sa => with_reducible assumption); (case sb => tm_at "rfr0")) | ((refine' kp_free ?sa ?sc ?sb); (case sa => with_reducible assumption); (case sb => tm_at "rfr0"); (case sc => tm_at "rne")) | fail "no")
local macro_rules | `(tactic| tm_at "rsm") => `(tactic| first | with_reducible assumption | exact Same.refl _ | ((refine' Same.trans ?sa ?sb); (case sb => with_reducible assumption); (case sa => tm_at "rsm")) | ((refine' sm_mut ?sa ?sc ?sb); (case sb => with_reducible assumption); (case sc => tm_at "rfr"); (case sa => tm_at "rsm")) | fail "no")
local macro_rules | `(tactic| tm_at "rkp") => `(tactic| first | with_reducible assumption | exact Kp.refl _ | ((refine' Kp.trans ?sa ?sb); (case sb => first | with_reducible assumption | exact Kp.of (by with_reducible assumption)); (case sa => tm_at "rkp")) | ((refine' kp_mut ?sa ?sc ?sb); (case sb => with_reducible assumption); (case sc => tm_at "rfr"); (case sa => tm_at "rkp")) | fail "no")
local macro_rules | `(tactic| tm_at "rs") => `(tactic| first
  | ((with_reducible refine' w_var ?h ?k); (case h => rfl))
  | with_reducible refine w_seq ?_
  | with_reducible refine w_nx ?_
  | with_reducible refine w_rt ?_
  | with_reducible refine w_c ?_
  | with_reducible refine w_op ?_
  | with_reducible refine w_un ?_
  | with_reducible refine w_rU ?_
  | with_reducible refine w_cb ?_
  | with_reducible refine w_cons ?_
  | with_reducible refine w_nil ?_
  | with_reducible refine w_asg ?_
  | with_reducible refine w_ret ?_
  | with_reducible refine w_ifs ?_
  | with_reducible refine w_call ?_
  | with_reducible refine w_callK ?_
  | with_reducible refine w_test ?_
  | with_reducible refine w_isbl ?_
  | with_reducible refine w_addI ?_
  | with_reducible refine w_I0 ?_
  | ((with_reducible refine w_andF ?h ?i (fun _ _ _ _ _ => ?_)); (case h => omega); (case i => omega))
  | with_reducible refine w_andI ?_
  | with_reducible refine w_ltI ?_
  | with_reducible refine w_leI ?_
  | with_reducible refine w_gtI ?_
  | with_reducible refine w_geI ?_
  | with_reducible refine w_eqI ?_
  | with_reducible refine w_neI ?_
  | with_reducible refine w_isN0 ?_
  | with_reducible refine w_notN0 ?_
  | ((with_reducible refine w_isNx ?h ?_); (case h => (intro e; cases e)))
  | ((with_reducible refine w_notNx ?h ?_); (case h => (intro e; cases e)))
  | with_reducible refine w_isBT ?_
  | with_reducible refine w_notBT ?_
  | with_reducible refine w_eqB ?_
  | with_reducible refine w_neB ?_
  | ((with_reducible refine w_orF ?h ?i (fun _ _ _ _ => ?_)); (case h => omega); (case i => omega))
  | with_reducible refine w_eqS ?_
  | with_reducible refine w_neS ?_
  | with_reducible refine w_max ?_
  | with_reducible refine w_min ?_
  | with_reducible refine w_intI ?_
  | with_reducible refine w_lst ?_
  | with_reducible refine w_tup ?_
  | with_reducible refine w_ifT ?_
  | with_reducible refine w_ifNT ?_
  | with_reducible refine w_ifNF ?_
  | with_reducible refine w_ifF ?_
  | with_reducible refine w_or ?_
  | with_reducible refine w_and ?_
  | with_reducible refine w_not ?_
  | with_reducible refine w_ife ?_
  | with_reducible refine w_andV ?_
  | with_reducible refine w_orV ?_
  | with_reducible refine w_notV ?_
  | with_reducible refine w_B ?_
  | with_reducible refine w_next ?_
  | with_reducible refine w_drop ?_
  | with_reducible refine w_par ?_
  | with_reducible refine w_parE ?_
  | with_reducible refine w_par3 ?_
  | with_reducible refine w_par3E ?_
  | with_reducible refine w_asgG ?_
  | with_reducible refine w_gsub ?_
  | with_reducible refine w_bm ?_
  | with_reducible refine w_sl ?_
  | with_reducible refine w_po0 ?_
  | with_reducible refine w_po1 ?_
  | with_reducible refine w_poE ?_
  | with_reducible refine w_for ?_
  | with_reducible refine w_iR1 ?_
  | with_reducible refine w_iR2 ?_
  | with_reducible refine w_iL ?_
  | with_reducible refine w_iT ?_
  | with_reducible refine w_sp ?_
  | ((with_reducible refine' w_aug ?h ?k); (case h => rfl))
  | with_reducible refine w_wt ?_
  | with_reducible refine w_shr1 ?_
  | with_reducible refine w_iaddI ?_
  | with_reducible refine w_xorI ?_
  | with_reducible refine w_isiIb ?_
  | with_reducible refine w_isiIi ?_
  | with_reducible refine w_isiBb ?_
  | with_reducible refine w_isiSs ?_
  | with_reducible refine w_gname ?_
  | with_reducible refine w_gnil ?_
  | with_reducible refine w_gcons ?_
  | ((with_reducible refine' w_gtup ?h ?l ?k); (case h => tm_at "rst"); (case l => rfl))
  | ((with_reducible refine w_imulI ?h ?_); (case h => tm_at "rc"))
  | ((with_reducible refine w_shl1F ?h ?i (fun _ _ _ _ _ _ => ?_)); (case h => omega); (case i => omega))
  | with_reducible refine w_bits ?_
  | with_reducible refine w_bitsE (fun _ _ _ => ?_)
  | ((with_reducible refine w_shlI ?h ?_); (case h => first | assumption | exact ⟨by decide, by decide⟩))
  | ((with_reducible refine w_modI ?h ?_); (case h => decide))
  | ((with_reducible refine w_modF ?h (fun _ _ _ _ _ => ?_)); (case h => omega))
  | ((with_reducible refine w_divI ?h ?_); (case h => (first | assumption | exact ⟨by decide, by decide +kernel⟩ | exact ⟨by assumption, by assumption⟩)))
  | ((with_reducible refine w_mulI ?h ?_); (case h => tm_at "rc"))
  | ((with_reducible refine w_powI ?h ?_); (case h => exact ⟨by decide, by decide, by decide +kernel⟩))
  | ((with_reducible refine w_shrI ?h ?_); (case h => (first | decide | omega)))
  | ((with_reducible refine w_intY ?h ?_); (case h => decide +kernel))
  | ((with_reducible refine w_intZ ?h ?_); (case h => decide +kernel))
  | with_reducible refine w_intD (fun _ => ?_) (fun _ => ?_)
  | with_reducible refine w_intDn (fun _ => ?_) (fun _ => ?_)
  | with_reducible refine w_intB (fun _ => ?_) (fun _ => ?_)
  | ((with_reducible refine' w_lenL ?h ?k); (case h => tm_at "rsq"))
  | ((with_reducible refine' w_lenT ?h ?k); (case h => tm_at "rst"))
  | ((with_reducible refine' w_ixL ?h ?a ?k); (case h => tm_at "rsq"); (case a => tm_at "rat"))
  | ((with_reducible refine' w_ixT ?h ?a ?k); (case h => tm_at "rst"); (case a => tm_at "rat"))
  | ((with_reducible refine w_newL ?h (fun _ _ _ _ _ => ?_)); (case h => exact sz_of (Nat.le_of_ble_eq_true rfl)))
  | ((with_reducible refine w_newT ?h (fun _ _ _ _ _ => ?_)); (case h => exact sz_of (Nat.le_of_ble_eq_true rfl)))
  | ((with_reducible refine' w_ix2I ?h ?a ?b (fun _ _ => ?k)); (case h => tm_at "rsq"); (case a => omega); (case b => omega))
  | ((with_reducible refine' w_ix3I ?h ?a ?b (fun _ _ => ?k)); (case h => tm_at "rsq"); (case a => omega); (case b => omega))
  | ((with_reducible refine' w_ix4I ?h ?a ?b (fun _ _ => ?k)); (case h => tm_at "rsq"); (case a => omega); (case b => omega))
  | ((with_reducible refine' w_ix5I ?h ?a ?b (fun _ _ => ?k)); (case h => tm_at "rsq"); (case a => omega); (case b => omega))
  | ((with_reducible refine' w_ix6I ?h ?a ?b (fun _ _ => ?k)); (case h => tm_at "rsq"); (case a => omega); (case b => omega))
  | ((with_reducible refine' w_ix7I ?h ?a ?b (fun _ _ => ?k)); (case h => tm_at "rsq"); (case a => omega); (case b => omega))
  | ((with_reducible refine' w_ix8I ?h ?a ?b (fun _ _ => ?k)); (case h => tm_at "rsq"); (case a => omega); (case b => omega))
  | ((with_reducible refine' w_sum ?h ?k); (case h => tm_at "rsq"))
  | ((with_reducible refine' w_all ?h ?k); (case h => tm_at "rsq"))
  | with_reducible refine w_lc ?_
  | with_reducible refine w_yes ?_
  | ((with_reducible refine w_lcGo ?h ?_); (case h => rfl))
  | ((with_reducible refine' w_lcEnd ?h ?z (fun _ _ _ => ?k)); (case h => tm_at "rlk"); (case z => tm_at "rsz"))
  | ((with_reducible refine w_ifY ?h ?_); (case h => decide +kernel))
  | ((with_reducible refine w_ifZ ?h ?_); (case h => decide +kernel))
  | ((with_reducible refine w_ifnY ?h ?_); (case h => decide +kernel))
  | ((with_reducible refine w_ifnZ ?h ?_); (case h => decide +kernel))
  | with_reducible refine w_if (fun _ => ?_) (fun _ => ?_)
  | with_reducible refine w_ifn (fun _ => ?_) (fun _ => ?_)
  | with_reducible refine w_ifnn (fun _ => ?_) (fun _ => ?_)
  | ((with_reducible refine' w_setL ?h ?e (fun _ _ _ => ?k)); (case h => tm_at "rlk"); (case e => rfl))
  | ((with_reducible refine' w_bmL ?h ?k); (case h => tm_at "rlk"))
  | ((with_reducible refine' w_app ?h ?z (fun _ _ _ => ?k)); (case h => tm_at "rlk"); (case z => tm_at "rsz"))
  | ((with_reducible refine' w_slL ?h (fun _ _ _ _ _ => ?k)); (case h => tm_at "rsq"))
  | ((with_reducible refine' w_slT ?h (fun _ _ _ _ => ?k)); (case h => tm_at "rlk"))
  | ((with_reducible refine' w_addL ?h ?i ?z (fun _ _ _ _ _ => ?k)); (case h => tm_at "rlk"); (case i => tm_at "rlk"); (case z => tm_at "rsz"))
  | ((with_reducible refine' w_catT ?h ?i ?z (fun _ _ _ _ => ?k)); (case h => tm_at "rlk"); (case i => tm_at "rlk"); (case z => tm_at "rsz"))
  | ((with_reducible refine' w_inS2 ?h ?k); (case h => tm_at "rst"))
  | ((with_reducible refine' w_niS2 ?h ?k); (case h => tm_at "rst"))
  | ((with_reducible refine' w_isiTup ?h ?k); (case h => tm_at "rlk"))
  | ((with_reducible refine' w_clear ?h (fun _ _ _ => ?k)); (case h => tm_at "rlk"))
  | ((with_reducible refine' w_iLe ?h ?k); (case h => tm_at "rsq"))
  | ((with_reducible refine' w_iTe ?h ?k); (case h => tm_at "rst"))
  | ((with_reducible refine w_iR1e ?h ?i ?_); (case h => omega); (case i => omega))
  | ((with_reducible refine w_iR2e ?h ?_); (case h => (refine ⟨?_, ?_, ?_, ?_⟩ <;> omega)))
  | fail "no")
def topS (i : Nat) : Stmt := PySem.Challenge.pw_runsums_k67_names_given_way.main.body.getD i (.Pass ⟨0, 0, 0, 0⟩)
abbrev s_f_law_box : Stmt := topS 16
theorem sc_f_law_box : FnScope ["script", "k", "cell", "seed"] ["script", "k"] (defScope s_f_law_box) := ⟨rfl, rfl, rfl, by decide +kernel, rfl, by decide +kernel, by decide +kernel⟩
abbrev s_f_law_take : Stmt := topS 14
theorem sc_f_law_take : FnScope ["box", "wide", "digit", "one"] ["box", "wide"] (defScope s_f_law_take) := ⟨rfl, rfl, rfl, by decide +kernel, rfl, by decide +kernel, by decide +kernel⟩
abbrev s_f_law_pool : Stmt := topS 17
theorem sc_f_law_pool : FnScope ["box", "many", "signs", "head", "stem", "k", "first", "at", "found", "name"] ["box", "many"] (defScope s_f_law_pool) := ⟨rfl, rfl, rfl, by decide +kernel, rfl, by decide +kernel, by decide +kernel⟩
abbrev s_f_law_term : Stmt := topS 18
theorem sc_f_law_term : FnScope ["box", "pool", "down", "form", "one"] ["box", "pool", "down"] (defScope s_f_law_term) := ⟨rfl, rfl, rfl, by decide +kernel, rfl, by decide +kernel, by decide +kernel⟩
abbrev s_f_Saying__init : Stmt := (clsB (topS 9)).getD 0 (.Pass ⟨0, 0, 0, 0⟩)
theorem sc_f_Saying__init : FnScope ["self", "word", "left", "right"] ["self", "word", "left", "right"] (defScope s_f_Saying__init) := ⟨rfl, rfl, rfl, by decide +kernel, rfl, by decide +kernel, by decide +kernel⟩
abbrev s_f_led : Stmt := topS 11
theorem sc_f_led : FnScope ["term", "names"] ["term", "names"] (defScope s_f_led) := ⟨rfl, rfl, rfl, by decide +kernel, rfl, by decide +kernel, by decide +kernel⟩
abbrev s_f_renamed : Stmt := topS 12
theorem sc_f_renamed : FnScope ["saying", "names"] ["saying", "names"] (defScope s_f_renamed) := ⟨rfl, rfl, rfl, by decide +kernel, rfl, by decide +kernel, by decide +kernel⟩
abbrev s_f_law_led : Stmt := topS 15
theorem sc_f_law_led : FnScope ["term", "given"] ["term", "given"] (defScope s_f_law_led) := ⟨rfl, rfl, rfl, by decide +kernel, rfl, by decide +kernel, by decide +kernel⟩
abbrev s_f_Saying__eq : Stmt := (clsB (topS 9)).getD 1 (.Pass ⟨0, 0, 0, 0⟩)
theorem sc_f_Saying__eq : FnScope ["self", "other"] ["self", "other"] (defScope s_f_Saying__eq) := ⟨rfl, rfl, rfl, by decide +kernel, rfl, by decide +kernel, by decide +kernel⟩
abbrev s_f_law_right : Stmt := topS 20
theorem sc_f_law_right : FnScope ["said", "given", "word", "left", "right", "saying", "handed", "found", "due", "back", "old", "name", "some"] ["said", "given"] (defScope s_f_law_right) := ⟨rfl, rfl, rfl, by decide +kernel, rfl, by decide +kernel, by decide +kernel⟩
abbrev s_f_law_dict : Stmt := topS 19
theorem sc_f_law_dict : FnScope ["box", "pool", "form", "found", "k"] ["box", "pool"] (defScope s_f_law_dict) := ⟨rfl, rfl, rfl, by decide +kernel, rfl, by decide +kernel, by decide +kernel⟩
abbrev s_f_law : Stmt := topS 21
theorem sc_f_law : FnScope ["script", "asked", "k", "box", "pool", "word", "said", "given"] ["script"] (defScope s_f_law) := ⟨rfl, rfl, rfl, by decide +kernel, rfl, by decide +kernel, by decide +kernel⟩
def gg_f_renamed_names {α : Type} : List α → List α → List α
  | [a0], [b0] => [a0, b0]
  | _, _ => []
def gk_f_renamed_names : List V → List V → List V := gg_f_renamed_names
theorem rel_gg_f_renamed_names {vs : List V} {us : List Value} {zs : List V} {ws : List Value} (r1 : Vals vs us) (r2 : Vals zs ws) : Vals (gg_f_renamed_names vs zs) (gg_f_renamed_names us ws) := by
  rcases r1 with _ | ⟨p0, _ | ⟨p1, _⟩⟩ <;> rcases r2 with _ | ⟨q0, _ | ⟨q1, _⟩⟩ <;> (first | exact Paired.nil | (repeat' (first | exact Paired.nil | assumption | refine Paired.cons ?_ ?_)))
theorem cgk_f_renamed_names {a0 b0 : V} {sp : Sp} {H : Hp} {Q : VK} {E : XK} (k : sp [a0, b0] H Q E) : sp (gk_f_renamed_names [a0] [b0]) H Q E := k
local macro_rules | `(tactic| tm_at "rs") => `(tactic| with_reducible refine cgk_f_renamed_names ?_)
theorem kb_f_renamed_names {K : PySem.W.Frag} {f : Addr} {fd : FuncData} (F : Fun K "renamed" "renamed" s_f_renamed f fd) : KBinds K fd ["saying", "names"] ["names"] gg_f_renamed_names gk_f_renamed_names := by
  obtain ⟨oc, od, kV, doc, pm, an, cdv, ct, osl, rfl, lk, hcd⟩ := F.ex
  exact ⟨fun s us ws _ hl => match us, ws, hl with | [a0], [b0], _ => .of_eq rfl, fun r1 r2 => rel_gg_f_renamed_names r1 r2⟩
/-! a box of draws -/
def BoxAt (H : Hp) (b : Addr) : Prop := ∃ x s : Int, H b = some (.lst [.int x, .int s]) ∧ 0 ≤ x ∧ 0 ≤ s ∧ s ≤ 2147483629
theorem BoxAt.sm {H H' : Hp} {b : Addr} (h : BoxAt H b) (e : Sm H H') : BoxAt H' b := by
  obtain ⟨x, s, h, r⟩ := h
  exact ⟨x, s, e _ _ h, r⟩
theorem BoxAt.kp {H H' : Hp} {b c : Addr} (h : BoxAt H b) (n : b ≠ c) (e : Kp c H H') : BoxAt H' b := by
  obtain ⟨x, s, h, r⟩ := h
  exact ⟨x, s, e _ _ n h, r⟩
theorem BoxAt.lst {H : Hp} {b : Addr} (h : BoxAt H b) : ∃ xs, H b = some (.lst xs) := by
  obtain ⟨x, s, h, r⟩ := h
  exact ⟨_, h⟩
def Wd (w : Int) : Prop := 0 < w ∧ w.natAbs.log2 < 9000
theorem wd_of {w : Int} (h0 : 0 < w) (h : w ≤ 10 ^ 60) : Wd w := by
  refine ⟨h0, ?_⟩
  have h1 : w.natAbs ≠ 0 := by omega
  rw [Nat.log2_lt h1]
  have h2 : w.natAbs ≤ 10 ^ 60 := by omega
  exact Nat.lt_of_le_of_lt h2 (by decide +kernel)
theorem wd_pow {w : Int} {k : Nat} (h0 : 0 < w) (h : w ≤ 2 ^ k) (hk : k < 9000) : Wd w := by
  refine ⟨h0, ?_⟩
  have h1 : w.natAbs ≠ 0 := by omega
  rw [Nat.log2_lt h1]
  have h2 : (w.natAbs : Int) ≤ ((2 ^ k : Nat) : Int) := by
    rw [Int.natCast_pow]
    have e : ((w.natAbs : Nat) : Int) = w := by omega
    rw [e]; exact h
  have h3 : w.natAbs ≤ 2 ^ k := Int.ofNat_le.mp h2
  exact Nat.lt_of_le_of_lt h3 (Nat.pow_lt_pow_right (by decide) hk)
/-- 10 to the power of 800 -/
def N800 : Int := 10 ^ 800
theorem n800_pos : 10 ^ 60 < N800 := by decide +kernel
theorem n800_le : N800 < 2 ^ 2660 := by decide +kernel
theorem n800_eq : N800 = 10 ^ 800 := rfl
theorem wd_800 {w : Int} (h0 : 0 < w) (h : w ≤ N800 + 10) : Wd w := wd_pow (k := 2661) h0 (by
  have h1 := n800_le
  have h2 : (2 : Int) ^ 2660 + 10 ≤ 2 ^ 2661 := by decide +kernel
  exact Int.le_trans (Int.le_trans h (Int.le_of_lt (Int.add_lt_add_right h1 10))) h2) (by decide)
theorem wd_two {z j : Int} (e : z = 2 ^ j.toNat) (l : j < 9000) : Wd z := by
  have h1 : (1 : Int) ≤ 2 ^ j.toNat := by
    have := Nat.two_pow_pos j.toNat
    have h2 : (2 : Int) ^ j.toNat = ((2 ^ j.toNat : Nat) : Int) := by rw [Int.natCast_pow]; rfl
    omega
  exact wd_pow (k := j.toNat) (by omega) (by omega) (by omega)

theorem ne_newB {H : Hp} {p b : Addr} (hp : H p = none) (hb : BoxAt H b) : p ≠ b := by
  obtain ⟨x, s, h, _⟩ := hb
  exact ne_new hp h
theorem ne_newB2 {H : Hp} {p b : Addr} (hp : H p = none) (hb : BoxAt H b) : b ≠ p := (ne_newB hp hb).symm
theorem g_bx {H H0 : Hp} {b : Addr} (_ : BoxAt H0 b) (h : BoxAt H b) : BoxAt H b := h
local macro_rules | `(tactic| tm_at "rbx") => `(tactic| first | with_reducible assumption | ((refine' g_bx ?sg ?sh); (case sg => with_reducible assumption); (case sh => tm_at "rbx0")) | fail "no")
local macro_rules | `(tactic| tm_at "rbx0") => `(tactic| first | with_reducible assumption | ((refine' BoxAt.sm ?sa ?sb); (case sb => with_reducible assumption); (case sa => tm_at "rbx0")) | ((refine' BoxAt.kp ?sa ?sc ?sb); (case sb => with_reducible assumption); (case sc => tm_at "rne"); (case sa => tm_at "rbx0")) | fail "no")
local macro_rules | `(tactic| tm_at "rne") => `(tactic| first | ((refine' ne_newB ?sa ?sb); (case sa => with_reducible assumption); (case sb => tm_at "rbx")) | ((refine' ne_newB2 ?sa ?sb); (case sa => with_reducible assumption); (case sb => tm_at "rbx")) | fail "no")
theorem AllT.kpB {P : List V → Prop} {xs : List V} {H H' : Hp} {b : Addr} (h : AllT P xs H) (hb : BoxAt H b) (e : Kp b H H') : AllT P xs H' := by
  obtain ⟨x, s, hb, _⟩ := hb
  exact h.kp hb e
local macro_rules | `(tactic| tm_at "rall") => `(tactic| first | with_reducible assumption | exact AllT.nil | ((refine' AllT.add ?sa ?sb ?sp); (case sa => tm_at "rall"); (case sb => tm_at "rlk"); (case sp => with_reducible assumption)) | ((refine' AllT.add ?sa ?sb ?sp); (case sa => tm_at "rall"); (case sb => tm_at "rlk")) | ((refine' AllT.app ?sa ?sb); (case sa => tm_at "rall"); (case sb => tm_at "rall")) | ((refine' AllT.cut ?sa); (case sa => tm_at "rall")) | ((refine' AllT.sm ?sa ?sb); (case sb => with_reducible assumption); (case sa => tm_at "rall")) | ((refine' AllT.kpB ?sa ?sc ?sb); (case sb => with_reducible assumption); (case sc => tm_at "rbx"); (case sa => tm_at "rall")) | ((refine' AllT.kp ?sa ?sc ?sb); (case sb => with_reducible assumption); (case sc => tm_at "rlk"); (case sa => tm_at "rall")) | fail "no")
theorem SqF.kpB {K : PySem.W.Frag} {xs : List V} {a : Addr} {H H' : Hp} {b : Addr} (h : SqF K H a xs) (hb : BoxAt H b) (e : Kp b H H') : SqF K H' a xs := by
  obtain ⟨x, s, hb, _⟩ := hb
  exact h.kp hb e
local macro_rules | `(tactic| tm_at "rsf0") => `(tactic| ((refine' SqF.kpB ?sa ?sc ?sb); (case sb => with_reducible assumption); (case sc => tm_at "rbx"); (case sa => tm_at "rsf0")))
local macro_rules | `(tactic| tm_at "rz") => `(tactic| first | with_reducible assumption | tm_at "rfr" | tm_at "rkp" | tm_at "rsm" | tm_at "rbx" | tm_at "rsf" | tm_at "rlk" | tm_at "rsq" | tm_at "rne" | omega | fail "no")

/-! texts: signs of them -/
theorem tl_len (z : Str) : z.cps.toList.length = z.length := Array.length_toList
theorem w_ixSF {K : PySem.W.Frag} {H : Hp} {Q : VK} {z : Str} {i : Int} (zl : z.length ≤ 1000) (h0 : 0 ≤ i) (h1 : i < (z.length : Int)) (k : ∀ c : Nat, z.cps.toList[i.toNat]? = some c → Q (.str ⟨#[c]⟩) H) : rIx K (.str z) (.int i) H Q := by
  obtain ⟨j, rfl⟩ := Int.eq_ofNat_of_zero_le h0
  have h2 : j < z.cps.toList.length := by rw [tl_len]; omega
  exact .inr (.inr ⟨z, j, _, rfl, rfl, sz_of (by omega), atI_nat (List.getElem?_eq_getElem h2), k _ (List.getElem?_eq_getElem h2)⟩)
def gInS : R2 := fun x y H Q => ∃ (c : Nat) (z : Str), x = .str ⟨#[c]⟩ ∧ y = .str z ∧ Q (.bl (decide (c ∈ z.cps.toList))) H
def gNotInS : R2 := fun x y H Q => ∃ (c : Nat) (z : Str), x = .str ⟨#[c]⟩ ∧ y = .str z ∧ Q (.bl (!decide (c ∈ z.cps.toList))) H
theorem op_gInS {X : Cx} : OpR X (compareOp .In) gInS := op_in_sign
theorem op_gNotInS {X : Cx} : OpR X (compareOp .NotIn) gNotInS := op_notIn_sign
theorem w_inS {H : Hp} {Q : VK} {c : Nat} {z : Str} (k : Q (.bl (decide (c ∈ z.cps.toList))) H) : gInS (.str ⟨#[c]⟩) (.str z) H Q := ⟨c, z, rfl, rfl, k⟩
theorem w_notInS {H : Hp} {Q : VK} {c : Nat} {z : Str} (k : Q (.bl (!decide (c ∈ z.cps.toList))) H) : gNotInS (.str ⟨#[c]⟩) (.str z) H Q := ⟨c, z, rfl, rfl, k⟩
def ItsE (R : It → Hp → Prop) (v : V) (H1 : Hp) : Prop := ∃ x, v = .str x ∧ R (Its x) H1
theorem w_iS {σ : L2.St} {H : Hp} {te : TE} {R : It → Hp → Prop} (k : te σ H fun v H1 => ItsE R v H1) : iStr te σ H R := k
theorem w_iSe {H : Hp} {R : It → Hp → Prop} {z : Str} (k : R (Its z) H) : ItsE R (.str z) H := ⟨z, rfl, k⟩
theorem lcS {σ : L2.St} {H : Hp} {Q : VK} {g : TG} {tt : TT} {te : TE} {vs : List Nat} {z : Str} (Pv : Addr → Nat → Hp → Prop) (h0 : ∀ D H', H D = none → Sm H H' → H' D = some (.lst []) → Pv D 0 H')
    (hs : ∀ D i c H', H D = none → z.cps.toList[i]? = some c → Pv D i H' → g (.str ⟨#[c]⟩) (wipe σ vs) H' fun σ2 H2 => LcGo vs σ σ2 (tt σ2 H2 fun b H3 => if b = true then te σ2 H3 fun y H4 => LcEnd D y (Pv D (i + 1)) H4 else Pv D (i + 1) H3))
    (hd : ∀ D H', H D = none → Pv D z.length H' → Q (.ref D) H') : LcL (Its z) g tt te vs σ H Q := fun D hD =>
  lc_it walk_str (Pv D) (h0 D _ hD (sm_new hD) upd_same) (fun _ _ _ _ => trivial) (fun i x H1 H' hi p y => by
    obtain ⟨rfl, c, hc, rfl⟩ := y
    exact hs D i c _ hD (by rw [Array.getElem?_toList]; exact hc) p) (fun H' p => hd D H' hD p)
theorem app_len (a b : Str) : (a ++ b).length = a.length + b.length := Array.size_append
def ChE (r' : R2) (tc : TE) (σ : L2.St) (Q : VK) (y z : V) (H3 : Hp) : Prop := ∃ k, z = .bl k ∧ (if k = true then tc σ H3 fun w' H4 => r' y w' H4 Q else Q (.bl false) H3)
theorem w_chain {r r' : R2} {ta tb tc : TE} {σ : L2.St} {H : Hp} {Q : VK} (k : ta σ H fun x H1 => tb σ H1 fun y H2 => r x y H2 fun z H3 => ChE r' tc σ Q y z H3) : tChain r r' ta tb tc σ H Q := k
theorem w_chE {r' : R2} {tc : TE} {σ : L2.St} {Q : VK} {y : V} {H3 : Hp} {p : Prop} [Decidable p] (a : p → tc σ H3 fun w' H4 => r' y w' H4 Q) (b : ¬ p → Q (.bl false) H3) : ChE r' tc σ Q y (.bl (decide p)) H3 := by
  refine ⟨_, rfl, ?_⟩
  by_cases h : p
  · rw [if_pos (decide_eq_true h)]; exact a h
  · rw [if_neg (by rw [decide_eq_false h]; decide)]; exact b h
def JoinE (K : PySem.W.Frag) (x y : V) (Q : VK) (H : Hp) : Prop := ∃ a p, ∃ ys : List Str, x = .str a ∧ [y] = [.ref p] ∧ (SqL K H p (ys.map V.str) ∨ SqT K H p (ys.map V.str)) ∧ (ys.map (·.length)).sum + ys.length * a.length ≤ 16777216 ∧ Q (.str (Txt.join a ys)) H
theorem w_join {K : PySem.W.Frag} {to te : TE} {σ : L2.St} {H : Hp} {Q : VK} (k : to σ H fun x H1 => (∃ a, x = .str a) ∧ te σ H1 fun y H2 => JoinE K x y Q H2) :
    tM1 (fun x xs H Q => ∃ a p, ∃ ys : List Str, x = .str a ∧ xs = [.ref p] ∧ (SqL K H p (ys.map V.str) ∨ SqT K H p (ys.map V.str)) ∧ (ys.map (·.length)).sum + ys.length * a.length ≤ 16777216 ∧ Q (.str (Txt.join a ys)) H) to te σ H Q := k
theorem w_isS {P : Prop} {s : Str} (k : P) : (∃ a, V.str s = .str a) ∧ P := ⟨⟨_, rfl⟩, k⟩
theorem sum_ones : ∀ ys : List Str, (∀ y ∈ ys, y.length = 1) → (ys.map (·.length)).sum = ys.length
  | [], _ => rfl
  | y :: ys, h => by
    rw [List.map_cons, List.sum_cons, List.length_cons, sum_ones ys (fun z hz => h z (List.mem_cons_of_mem _ hz)), h y List.mem_cons_self, Nat.add_comm]
theorem w_joinE {K : PySem.W.Frag} {H : Hp} {Q : VK} {p : Addr} {ys : List Str} (h : SqL K H p (ys.map V.str)) (h1 : ∀ y ∈ ys, y.length = 1) (hn : ys.length ≤ 10000) (k : Q (.str (Txt.join (Str.ofString "") ys)) H) : JoinE K (.str (Str.ofString "")) (.ref p) Q H := by
  refine ⟨_, p, ys, rfl, rfl, .inl h, ?_, k⟩
  rw [sum_ones ys h1, show (Str.ofString "").length = 0 from rfl, Nat.mul_zero]
  omega
theorem w_slS {H : Hp} {Q : VK} {z : Str} {lo hi : Option Int} (zl : z.length ≤ 10000) (k : (cutS z lo hi).length ≤ z.length → Q (.str (cutS z lo hi)) H) : rSlS (.str z) lo hi H Q := ⟨z, rfl, sz_of (by omega), k (cutS_length _ _ _)⟩
theorem sgn_len (c : Nat) : (⟨#[c]⟩ : Str).length = 1 := rfl
local macro_rules | `(tactic| tm_at "rs") => `(tactic| first | with_reducible refine w_join ?_ | with_reducible refine w_isS ?_ | ((with_reducible refine w_slS ?h (fun _ => ?_)); (case h => first | omega | (simp only [app_len, sgn_len]; omega))) | with_reducible refine w_chain ?_ | with_reducible refine w_chE (fun _ => ?_) (fun _ => ?_) | with_reducible refine w_inS ?_ | with_reducible refine w_notInS ?_ | with_reducible refine w_iS ?_ | with_reducible refine w_iSe ?_ | ((with_reducible refine w_ixSF ?h ?i ?j (fun _ _ => ?_)); (case h => first | omega | decide); (case i => omega); (case j => first | omega | decide)) | ((with_reducible refine w_lenS ?h ?_); (case h => first | (apply sz_of; omega) | exact sz_of (by decide) | (apply sz_of; simp only [app_len, sgn_len]; omega))) | ((with_reducible refine w_addS ?h ?_); (case h => first | (apply sz_of; omega) | (apply sz_of; simp only [app_len, sgn_len]; omega) | exact sz_of (by decide))) | fail "no")

/-! int(text) and str(int) beyond 640 figures, up to 4300 -/
theorem nsIn_none {K : PySem.W.Frag} {h : Heap} {a : Addr} {mc : Str → Option Value} {n : Str} (X : K.In h) (G : h.Ns a mc) (e : PySem.W.nsIn K a n = some none) : mc n = none := by
  obtain ⟨o, es, ep, ho, hd, _, hf⟩ := G
  unfold PySem.W.nsIn at e
  split at e
  · rename_i c d es' n' sl q
    have := X _ _ q
    rw [ho] at this
    cases this
    cases hd
    split at e
    · cases e
    · rename_i he
      rw [← hf]
      unfold nsFind findBy
      rw [← Array.find?_toList, he]
      rfl
  · cases e
/-- nothing has set how many figures a text may have -/
def NoDig (K : PySem.W.Frag) : Prop := PySem.W.nsIn K cStatics "sys.int_max_str_digits" = some none
theorem inv_nd {X : Cx} {pins : List (Addr × Obj)} {σ : L2.St} {H : Hp} {s : Shared} (I : Inv X pins σ H s) (z : NoDig X.K) : s.heap.NoDigits := by
  obtain ⟨mc, a, _⟩ := I.nolimit
  exact ⟨mc, a, nsIn_none I.kIn a z⟩
theorem wp_textB {M : Model} {A : Around} {E : Value → Shared → Prop} {s : Shared} {Q : Value → Shared → Prop} {v : Value} {text : List Nat} {n : Int}
    (hs : ¬ (text.takeWhile (· != 0)).length ≤ 640) (hr : (int_private% "readNumeral") 4300 10 (text.takeWhile (· != 0)) = (int_private% "Numeral.value") n)
    (ha : ((text.takeWhile (· != 0)).length == text.length) = true) (nd : s.heap.NoDigits) (h : Q (.int n s.toks) { s with toks := s.toks + 1 }) :
    wpAny M A ((int_private% "intFromText") v text 10) Q E s := by
  obtain ⟨mc, hns, hnone⟩ := nd
  have hlim : ∀ {Q : Nat → Shared → Prop}, Q 4300 s → wpAny M A Builtin.intMaxStrDigits Q E s := fun q => by
    unfold Builtin.intMaxStrDigits
    refine wpAny_bind (wpAny_nsGet hns ?_)
    rw [hnone]
    exact wpAny_pure q
  clear hns hnone
  obtain ⟨hp, g, d, tk, os⟩ := s
  repeat (any_goals (first
    | assumption
    | (with_reducible refine wpAny_ite_false (decide_eq_false hs) ?_)
    | (with_reducible refine wpAny_ite_true (decide_eq_true ha) ?_)
    | (with_reducible refine hlim ?_)
    | wp_step))
  all_goals (try rw [hr])
  all_goals (try dsimp only)
  repeat (any_goals (first
    | assumption
    | (with_reducible refine wpAny_ite_false (decide_eq_false hs) ?_)
    | (with_reducible refine wpAny_ite_true (decide_eq_true ha) ?_)
    | wp_step))
structure HidI (p : Prop) : Prop where
  out : p
theorem int_big {x : PySem.Str} {u : Tok} {n : Int} (hl : x.length ≤ sizeLine) (hb : ¬ (numSeenOf x).length ≤ 640) (hn : PySem.intText? x = some n) {M : Model} {A : Around} {E : Value → Shared → Prop} {s : Shared} {Q : Value → Shared → Prop}
    (nd : s.heap.NoDigits) (h : Q (.int n s.toks) { s with toks := s.toks + 1 }) : wpAny M A (Builtin.«int.__new__» ⟨[.type "int", .str x u], []⟩) (fun fin s' => ∃ v, fin = .done (.ret v) ∧ Q v s') E s := by
  obtain ⟨hp, g, d, tk, os⟩ := s
  have f1 := F.conv_sub_int
  have f2 := F.madeHere_int
  have f3 := PySem.W.KIN.str_int
  have f4 := PySem.W.KIN.str_idx
  have f5 := PySem.W.KIN.str_trunc
  have f6 : typeOf (.str x u) = pure (.type "str") := rfl
  have hr : (int_private% "readNumeral") 4300 10 (numSeenOf x) = (int_private% "Numeral.value") n ∧ ((numSeenOf x).length == (numTextOf x).length) = true := by
    rcases read4300 x hl with ⟨m, h1, h2, h3⟩ | ⟨h1, _⟩
    · rw [hn] at h1
      injection h1 with h1
      subst h1
      exact ⟨h3, h2⟩
    · rw [hn] at h1
      cases h1
  have hk := HidI.mk (And.intro hb (And.intro hr nd))
  clear hr hl hn hb nd
  repeat (any_goals (first
    | assumption
    | ((with_reducible show wpAny _ _ ((int_private% "intFromText") _ _ _) _ _ _); refine wp_textB hk.out.1 hk.out.2.1.1 hk.out.2.1.2 hk.out.2.2 ?_)
    | wp_step))
  all_goals first | exact ⟨_, rfl, h⟩ | skip
theorem int_few {x : PySem.Str} {u : Tok} {n : Int} (hb : (numSeenOf x).length ≤ 640) (hn : PySem.intText? x = some n) {M : Model} {A : Around} {E : Value → Shared → Prop} {s : Shared} {Q : Value → Shared → Prop}
    (h : Q (.int n s.toks) { s with toks := s.toks + 1 }) : wpAny M A (Builtin.«int.__new__» ⟨[.type "int", .str x u], []⟩) (fun fin s' => ∃ v, fin = .done (.ret v) ∧ Q v s') E s := by
  obtain ⟨hp, g, d, tk, os⟩ := s
  have f1 := F.conv_sub_int
  have f2 := F.madeHere_int
  have f3 := PySem.W.KIN.str_int
  have f4 := PySem.W.KIN.str_idx
  have f5 := PySem.W.KIN.str_trunc
  have f6 : typeOf (.str x u) = pure (.type "str") := rfl
  have hr : (int_private% "readNumeral") 0 10 (numSeenOf x) = (int_private% "Numeral.value") n ∧ ((numSeenOf x).length == (numTextOf x).length) = true := by
    rcases read0 x hb with ⟨m, h1, h2, h3⟩ | ⟨h1, _⟩
    · rw [hn] at h1
      injection h1 with h1
      subst h1
      exact ⟨h3, h2⟩
    · rw [hn] at h1
      cases h1
  have hk := HidI.mk (And.intro hb hr)
  clear hr hn hb
  repeat (any_goals (first
    | assumption
    | ((with_reducible show wpAny _ _ ((int_private% "intFromText") _ _ _) _ _ _); refine PySem.W.KIN.wp_text hk.out.1 hk.out.2.1 hk.out.2.2 ?_)
    | wp_step))
  all_goals first | exact ⟨_, rfl, h⟩ | skip
theorem call_textB {prog : Program} {w : World} {A : Around} {E : Value → Shared → Prop} {s : Shared} {x : PySem.Str} {t : Tok} {n : Int} {Q : Value → Shared → Prop} (hl : x.length ≤ sizeLine) (hn : PySem.intText? x = some n) (nd : s.heap.NoDigits)
    (h : Q (.int n s.toks) { s with toks := s.toks + 1 }) : wpAny (model prog w) A (call (.type "int") [.str x t]) Q E s := by
  by_cases hb : (numSeenOf x).length ≤ 640
  · exact call_int_1 (S := fun A R s => R (.ok (.ret (.int n s.toks))) { s with toks := s.toks + 1 }) (fun prog w A R s hq => wpAny_mono (int_few (Q := fun v s' => R (.ok (.ret v)) s') hb hn hq) (fun fin s' h' => by obtain ⟨v, rfl, hv⟩ := h'; exact hv) fun _ _ x => x) ⟨typeIs_int _ _ _, h⟩
  · exact call_int_1 (S := fun A R s => s.heap.NoDigits ∧ R (.ok (.ret (.int n s.toks))) { s with toks := s.toks + 1 }) (fun prog w A R s hq => wpAny_mono (int_big (Q := fun v s' => R (.ok (.ret v)) s') hl hb hn hq.1 hq.2) (fun fin s' h' => by obtain ⟨v, rfl, hv⟩ := h'; exact hv) fun _ _ x => x) ⟨nd, typeIs_int _ _ _, h⟩
def gStrI : List V → Hp → VK → Prop := fun xs H Q => ∃ i : Int, xs = [.int i] ∧ i.natAbs < 10 ^ 4300 ∧ Q (.str (toString i)) H
theorem w_strInt {i : Int} {H : Hp} {Q : VK} (h : i.natAbs < 10 ^ 4300) (k : Q (.str (toString i)) H) : gStrI [.int i] H Q := ⟨i, rfl, h, k⟩
def gIntT : List V → Hp → VK → Prop := fun xs H Q => ∃ a n, xs = [.str a] ∧ PySem.intText? a = some n ∧ a.length ≤ sizeLine ∧ Q (.int n) H
theorem w_intText {a : Str} {n : Int} {H : Hp} {Q : VK} (h : PySem.intText? a = some n) (hl : a.length ≤ sizeLine) (k : Q (.int n) H) : gIntT [.str a] H Q := ⟨a, n, rfl, h, hl, k⟩
section
variable {X : Cx}
theorem call_intText (z : NoDig X.K) : CallR X (.type "int") gIntT := by
  intro pins s σ H xs us Q I rs h
  obtain ⟨a, n, rfl, hn, hl, h⟩ := h
  cases rs with
  | cons r1 rs =>
    cases rs
    obtain ⟨t, rfl⟩ := r1
    exact call_textB hl hn (inv_nd I z) ⟨.int n, H, I.tok _, ⟨_, rfl⟩, h⟩
theorem call_strInt (z : NoDig X.K) (hc : X.calm = true) : CallR X (.type "str") gStrI := by
  intro pins s σ H xs us Q I r h
  obtain ⟨i, rfl, hz, q⟩ := h
  obtain ⟨u, rfl, t, rfl⟩ := vals1 r
  exact str_of_int_or (I.ok.hd hc) (inv_nd I z) (fun _ => ⟨.str _, H, I.tok _, ⟨_, rfl⟩, q⟩) (fun hge => absurd hz (Nat.not_lt.mpr hge))
end

/-! int(text, 2) of noughts and ones -/
def Bit2 (c : Nat) : Prop := c = 48 ∨ c = 49
def num2 (l : List Nat) : Nat := l.foldl (fun a c => a * 2 + (c - 48)) 0
theorem b2_hex {c : Nat} (h : Bit2 c) : L2.Hx.IsHex c := .inl (by rcases h with rfl | rfl <;> decide)
theorem b2_step {ds : Array Nat} {b : Bool} {c : Nat} (h : Bit2 c) : PySem.NumText.step 2 (ds, b) c = some (ds.push (c - 48), true) := by
  rcases h with rfl | rfl <;> rfl
theorem b2_fold : ∀ (l : List Nat) (ds : Array Nat), (∀ c ∈ l, Bit2 c) → l.foldlM (PySem.NumText.step 2) (ds, true) = some (l.foldl (fun a c => a.push (c - 48)) ds, true)
  | [], _, _ => rfl
  | c :: l, ds, h => by
    rw [List.foldlM_cons, b2_step (h c List.mem_cons_self)]
    exact b2_fold l (ds.push (c - 48)) fun x hx => h x (List.mem_cons_of_mem _ hx)
theorem b2_digits {l : List Nat} (h : ∀ c ∈ l, Bit2 c) (ne : l ≠ []) : digits? 2 l = some (l.foldl (fun a c => a.push (c - 48)) #[]) := by
  cases l with
  | nil => exact (ne rfl).elim
  | cons c l =>
    unfold digits?
    rw [List.foldlM_cons, b2_step (h c List.mem_cons_self)]
    show ((l.foldlM (PySem.NumText.step 2) (Array.push #[] (c - 48), true)).bind _) = _
    rw [b2_fold l _ fun x hx => h x (List.mem_cons_of_mem _ hx)]
    rfl
theorem b2_push : ∀ (l : List Nat) (ds : Array Nat), (l.foldl (fun a c => a.push (c - 48)) ds).foldl (fun a d => a * 2 + d) 0 = l.foldl (fun a c => a * 2 + (c - 48)) (ds.foldl (fun a d => a * 2 + d) 0)
  | [], _ => rfl
  | c :: l, ds => by
    rw [List.foldl_cons, List.foldl_cons, b2_push l (ds.push (c - 48)), Array.foldl_push]
theorem b2_based {l : List Nat} (h : ∀ c ∈ l, Bit2 c) : based 2 l = (2, false, l) := by
  match l, h with
  | [], _ => rfl
  | [a], h => rcases h a List.mem_cons_self with rfl | rfl <;> rfl
  | a :: c :: r, h =>
    have h2 := h c (List.mem_cons_of_mem _ List.mem_cons_self)
    rcases h a List.mem_cons_self with rfl | rfl <;> rcases h2 with rfl | rfl <;> rfl
theorem b2_read (m : Nat) {l : List Nat} (h : ∀ c ∈ l, Bit2 c) (ne : l ≠ []) : (int_private% "readNumeral") m 2 l = (int_private% "Numeral.value") ((num2 l : Nat) : Int) := by
  have hx : ∀ c ∈ l, L2.Hx.IsHex c := fun c hc => b2_hex (h c hc)
  have hb := b2_based h
  refine Eq.trans (readNumeral_eq m 2 l) ?_
  rw [L2.Hx.dropB hx, L2.Hx.signH hx]
  show judge m false (based 2 l).1 (based 2 l).2.1 (digits? (based 2 l).1 ((List.dropWhile blank (based 2 l).2.2.reverse).reverse)) = _
  rw [hb]
  show judge m false 2 false (digits? 2 ((List.dropWhile blank l.reverse).reverse)) = _
  rw [L2.Hx.dropB (cs := l.reverse) fun c hc => hx c (List.mem_reverse.mp hc), List.reverse_reverse, b2_digits h ne]
  have e : ∀ ds : Array Nat, judge m false 2 false (some ds) = (int_private% "Numeral.value") ((ds.foldl (fun a d => a * 2 + d) 0 : Nat) : Int) := fun ds => by
    unfold judge
    rfl
  rw [e, b2_push]
  rfl
theorem wp_text2 {M : Model} {A : Around} {E : Value → Shared → Prop} {s : Shared} {Q : Value → Shared → Prop} {v : Value} {text : List Nat} {n : Int}
    (hr : ∀ m : Nat, (int_private% "readNumeral") m 2 (text.takeWhile (· != 0)) = (int_private% "Numeral.value") n)
    (ha : ((text.takeWhile (· != 0)).length == text.length) = true) (nd : s.heap.NoDigits) (h : Q (.int n s.toks) { s with toks := s.toks + 1 }) :
    wpAny M A ((int_private% "intFromText") v text 2) Q E s := by
  obtain ⟨mc, hns, hnone⟩ := nd
  have hlim : ∀ {Q : Nat → Shared → Prop}, Q 4300 s → wpAny M A Builtin.intMaxStrDigits Q E s := fun q => by
    unfold Builtin.intMaxStrDigits
    refine wpAny_bind (wpAny_nsGet hns ?_)
    rw [hnone]
    exact wpAny_pure q
  clear hns hnone
  obtain ⟨hp, g, d, tk, os⟩ := s
  by_cases hs : (text.takeWhile (· != 0)).length ≤ 640
  · repeat (any_goals (first
      | assumption
      | (with_reducible refine wpAny_ite_true (decide_eq_true hs) ?_)
      | (with_reducible refine wpAny_ite_true (decide_eq_true ha) ?_)
      | wp_step))
    all_goals (try rw [hr])
    all_goals (try dsimp only)
    repeat (any_goals (first
      | assumption
      | (with_reducible refine wpAny_ite_true (decide_eq_true ha) ?_)
      | wp_step))
  · repeat (any_goals (first
      | assumption
      | (with_reducible refine wpAny_ite_false (decide_eq_false hs) ?_)
      | (with_reducible refine wpAny_ite_true (decide_eq_true ha) ?_)
      | (with_reducible refine hlim ?_)
      | wp_step))
    all_goals (try rw [hr])
    all_goals (try dsimp only)
    repeat (any_goals (first
      | assumption
      | (with_reducible refine wpAny_ite_true (decide_eq_true ha) ?_)
      | wp_step))
theorem int_two {x : PySem.Str} {u t : Tok} (hx : ∀ c ∈ x.cps.toList, Bit2 c) (ne : x.cps.toList ≠ []) {M : Model} {A : Around} {E : Value → Shared → Prop} {s : Shared} {Q : Value → Shared → Prop}
    (nd : s.heap.NoDigits) (h : Q (.int ((num2 x.cps.toList : Nat) : Int) s.toks) { s with toks := s.toks + 1 }) : wpAny M A (Builtin.«int.__new__» ⟨[.type "int", .str x u, .int 2 t], []⟩) (fun fin s' => ∃ v, fin = .done (.ret v) ∧ Q v s') E s := by
  obtain ⟨hp, g, d, tk, os⟩ := s
  have f1 := F.conv_sub_int
  have f2 := F.madeHere_int
  have f6 : typeOf (.str x u) = pure (.type "str") := rfl
  obtain ⟨e1, e2⟩ := L2.Hx.seen_hex (x := x) fun c hc => b2_hex (hx c hc)
  have hr : ∀ m : Nat, (int_private% "readNumeral") m 2 (numSeenOf x) = (int_private% "Numeral.value") ((num2 x.cps.toList : Nat) : Int) := fun m => by
    rw [e2]
    exact b2_read m hx ne
  have ha : ((numSeenOf x).length == (numTextOf x).length) = true := by
    rw [e1, e2]
    exact beq_self_eq_true _
  have hk := HidI.mk (And.intro hr (And.intro ha nd))
  clear hr ha e1 e2 ne hx nd
  repeat (any_goals (first
    | assumption
    | ((with_reducible show wpAny _ _ ((int_private% "intFromText") _ _ _) _ _ _); refine wp_text2 hk.out.1 hk.out.2.1 hk.out.2.2 ?_)
    | wp_step))
  all_goals first | exact ⟨_, rfl, h⟩ | skip
def gIntT2 : List V → Hp → VK → Prop := fun xs H Q => ∃ a, xs = [.str a, .int 2] ∧ a.cps.toList ≠ [] ∧ (∀ c ∈ a.cps.toList, Bit2 c) ∧ Q (.int ((num2 a.cps.toList : Nat) : Int)) H
theorem call_two {prog : Program} {w : World} {A : Around} {E : Value → Shared → Prop} {s : Shared} {x : PySem.Str} {u t : Tok} {Q : Value → Shared → Prop} (hx : ∀ c ∈ x.cps.toList, Bit2 c) (ne : x.cps.toList ≠ []) (nd : s.heap.NoDigits)
    (h : Q (.int ((num2 x.cps.toList : Nat) : Int) s.toks) { s with toks := s.toks + 1 }) : wpAny (model prog w) A (call (.type "int") [.str x u, .int 2 t]) Q E s :=
  callType_new (S := fun A R s => s.heap.NoDigits ∧ R (.ok (.ret (.int ((num2 x.cps.toList : Nat) : Int) s.toks))) { s with toks := s.toks + 1 }) F.called_int F.newNe_int (L2.Hx.typeCall_int_2 _ _) (L2.Hx.newCall_int_2 _ _)
    (fun obj => F.initArgs_range_2 obj _ _) F.entry_int_new (fun prog w A R s hq => wpAny_mono (int_two (Q := fun v s' => R (.ok (.ret v)) s') hx ne hq.1 hq.2) (fun fin s' h' => by obtain ⟨v, rfl, hv⟩ := h'; exact hv) fun _ _ x => x) ⟨nd, typeIs_int _ _ _, h⟩
section
variable {X : Cx}
theorem call_intText2 (z : NoDig X.K) : CallR X (.type "int") gIntT2 := by
  intro pins s σ H xs us Q I rs h
  obtain ⟨a, rfl, ne, hx, h⟩ := h
  obtain ⟨u1, u2, rfl, ⟨t1, rfl⟩, t2, rfl⟩ := vals2 rs
  exact call_two hx ne (inv_nd I z) ⟨.int _, H, I.tok _, ⟨_, rfl⟩, h⟩
end
theorem w_intText2 {a : Str} {H : Hp} {Q : VK} (ne : a.cps.toList ≠ []) (hx : ∀ c ∈ a.cps.toList, Bit2 c) (k : Q (.int ((num2 a.cps.toList : Nat) : Int)) H) : gIntT2 [.str a, .int 2] H Q := ⟨a, rfl, ne, hx, k⟩

/-! figures to a number -/
def hrn (b : Int) : List Int → Int
  | [] => 0
  | x :: l => hrn b l * b + x
theorem hrn_app (b : Int) (x : Int) : ∀ l : List Int, hrn b (l ++ [x]) = hrn b l + x * b ^ l.length
  | [] => by
    show 0 * b + x = 0 + x * b ^ 0
    rw [Int.zero_mul, Int.pow_zero, Int.mul_one]
  | y :: l => by
    show hrn b (l ++ [x]) * b + y = hrn b l * b + y + x * b ^ (l.length + 1)
    rw [hrn_app b x l, Int.add_mul, Int.mul_assoc, ← Int.pow_succ, Int.add_right_comm]
theorem hrn_bd {b : Int} (hb : b.natAbs < 2 ^ 41) : ∀ l : List Int, (∀ n ∈ l, n.natAbs < 2 ^ 2000) → (hrn b l).natAbs < 2 ^ (2000 + 42 * l.length)
  | [], _ => Nat.two_pow_pos _
  | x :: l, h => by
    have h1 := hrn_bd hb l (fun n hn => h n (List.mem_cons_of_mem _ hn))
    have h2 := h x List.mem_cons_self
    have h3 : (hrn b l * b + x).natAbs ≤ (hrn b l).natAbs * b.natAbs + x.natAbs := by
      have := Int.natAbs_add_le (hrn b l * b) x
      rw [Int.natAbs_mul] at this
      exact this
    have h4 : (hrn b l).natAbs * b.natAbs < 2 ^ (2000 + 42 * l.length) * 2 ^ 41 := Nat.mul_lt_mul'' h1 hb
    have h5 : 2 ^ 2000 ≤ 2 ^ (2000 + 42 * l.length) * 2 ^ 41 := by
      rw [← Nat.pow_add]
      exact Nat.pow_le_pow_right (by decide) (by omega)
    have h6 : 2 ^ (2000 + 42 * (x :: l).length) = 2 ^ (2000 + 42 * l.length) * 2 ^ 41 + 2 ^ (2000 + 42 * l.length) * 2 ^ 41 := by
      rw [← Nat.pow_add, show 2000 + 42 * (x :: l).length = (2000 + 42 * l.length + 41) + 1 by rw [List.length_cons]; omega, Nat.pow_succ, Nat.mul_two]
    show (hrn b l * b + x).natAbs < _
    rw [h6]
    generalize 2 ^ (2000 + 42 * l.length) * 2 ^ 41 = A at *
    generalize (2 : Nat) ^ 2000 = B at *
    omega
theorem bpow_bd {b : Int} (hb : b.natAbs < 2 ^ 41) (i : Nat) : (b ^ i).natAbs < 2 ^ (41 * i + 1) := by
  rw [Int.natAbs_pow, Nat.pow_succ, Nat.pow_mul]
  have h := Nat.pow_le_pow_left (Nat.le_of_lt hb) i
  have h2 : 0 < (2 ^ 41 : Nat) ^ i := Nat.pow_pos (by decide)
  omega
theorem hrn_drop {b : Int} {ns : List Int} {i : Nat} {m : Int} (hi : i < ns.length) (h : ns[ns.length - 1 - i]? = some m) : hrn b (ns.drop (ns.length - (i + 1))) = hrn b (ns.drop (ns.length - i)) * b + m := by
  obtain ⟨h1, h2⟩ := List.getElem?_eq_some_iff.mp h
  have e : ns.length - (i + 1) = ns.length - 1 - i := by omega
  rw [e, List.drop_eq_getElem_cons h1, h2, show ns.length - 1 - i + 1 = ns.length - i by omega]
  rfl
theorem hrn_take {b : Int} {ns : List Int} {i : Nat} {m : Int} (h : ns[i]? = some m) : hrn b (ns.take (i + 1)) = hrn b (ns.take i) + m * b ^ i := by
  obtain ⟨h1, h2⟩ := List.getElem?_eq_some_iff.mp h
  rw [List.take_succ, h]
  show hrn b (ns.take i ++ [m]) = _
  rw [hrn_app, List.length_take, Nat.min_eq_left (Nat.le_of_lt h1)]
theorem ints_at {ns : List Int} {i : Nat} {x : V} (h : (ns.map V.int)[i]? = some x) : ∃ m, ns[i]? = some m ∧ x = V.int m := by
  rw [List.getElem?_map] at h
  cases e : ns[i]? with
  | none => rw [e] at h; cases h
  | some m => rw [e] at h; cases h; exact ⟨m, rfl, rfl⟩
/-! a walk backwards -/
def RvE (K : PySem.W.Frag) (R : It → Hp → Prop) (v : V) (H1 : Hp) : Prop := ∃ (a : Addr) (xs : List V), v = .ref a ∧ ((SqL K H1 a xs ∧ R (Itv K a xs.length) H1) ∨ (SqT K H1 a xs ∧ R (_root_.RT.ItvT K a xs.length) H1))
theorem w_iRv {K : PySem.W.Frag} {σ : L2.St} {H : Hp} {te : TE} {R : It → Hp → Prop} (k : te σ H fun v H1 => RvE K R v H1) : _root_.RT.iRevA K te σ H R := k
theorem walk_revT {K : PySem.W.Frag} {a : Addr} {xs : List V} : Walk (_root_.RT.ItvT K a xs.length) xs.length (fun H => SqT K H a xs) (fun i H x H' => H' = H ∧ xs[xs.length - 1 - i]? = some x) :=
  ⟨fun i H hi h => ⟨hi, xs, _, h, List.getElem?_eq_getElem (by omega)⟩, fun H h => Nat.le_refl _, fun i H x H' hi h y => ⟨y.1, y.2 xs h⟩⟩
theorem loopVL {σ : L2.St} {H : Hp} {D : Ends} {K : PySem.W.Frag} {g : TG} {tb : TS} {a : Addr} {xs : List V} (Pv : Nat → L2.St → Hp → Prop) (h0 : Pv 0 σ H) (hl : ∀ i σ H, i ≤ xs.length → Pv i σ H → SqL K H a xs)
    (hs : ∀ i x σ H, i < xs.length → xs[xs.length - 1 - i]? = some x → Pv i σ H → g x σ H fun σ2 H2 => tb (En (Pv (i + 1)) (RT D) (NX D) (Pv (i + 1))) σ2 H2) (hd : ∀ σ H, Pv xs.length σ H → NX D σ H) : Loop (Itv K a xs.length) g tb D σ H :=
  for_it walk_rev Pv h0 hl (fun i x σ H H' hi p y => by obtain ⟨rfl, e⟩ := y; exact hs i x σ _ hi e p) hd
theorem loopVT {σ : L2.St} {H : Hp} {D : Ends} {K : PySem.W.Frag} {g : TG} {tb : TS} {a : Addr} {xs : List V} (Pv : Nat → L2.St → Hp → Prop) (h0 : Pv 0 σ H) (hl : ∀ i σ H, i ≤ xs.length → Pv i σ H → SqT K H a xs)
    (hs : ∀ i x σ H, i < xs.length → xs[xs.length - 1 - i]? = some x → Pv i σ H → g x σ H fun σ2 H2 => tb (En (Pv (i + 1)) (RT D) (NX D) (Pv (i + 1))) σ2 H2) (hd : ∀ σ H, Pv xs.length σ H → NX D σ H) : Loop (_root_.RT.ItvT K a xs.length) g tb D σ H :=
  for_it walk_revT Pv h0 hl (fun i x σ H H' hi p y => by obtain ⟨rfl, e⟩ := y; exact hs i x σ _ hi e p) hd
theorem w_rep1 {H : Hp} {Q : VK} {l : Addr} {m j : Int} (h : H l = some (.lst [.int m])) (h0 : 0 ≤ j) (h1 : j ≤ 1000) (k : ∀ p H', H p = none → Sm H H' → H' p = some (.lst ((List.replicate j.toNat m).map V.int)) → Q (.ref p) H') : gMul (.ref l) (.int j) H Q := by
  refine .inr (.inr ⟨l, j, _, rfl, rfl, h, by omega, by omega, sz_of ?_, fun p hp => k p _ hp (sm_new hp) ?_⟩)
  · show 1 * j.toNat ≤ _
    omega
  · rw [upd_same, List.map_replicate, List.flatten_replicate_singleton]
theorem w_addInts {K : PySem.W.Frag} {H : Hp} {Q : VK} {l m : Addr} {ns ms : List Int} (h1 : H l = some (.lst (ns.map V.int))) (h2 : H m = some (.lst (ms.map V.int))) (z : ns.length + ms.length ≤ 1000) (k : ∀ p H', H p = none → Sm H H' → H' p = some (.lst ((ns ++ ms).map V.int)) → Q (.ref p) H') :
    gAdd K (.ref l) (.ref m) H Q := w_addL h1 h2 (sz_of (by rw [List.length_map, List.length_map]; omega)) fun p H' a b c => k p H' a b (by rw [List.map_append]; exact c)
theorem w_ix4P {K : PySem.W.Frag} {H : Hp} {Q : VK} {i : Int} {p : Addr} {x0 x1 x2 x3 : Int} (h : SqL K H p [.int x0, .int x1, .int x2, .int x3]) (h0 : 1 ≤ i) (h1 : i < 4) (k : ∀ z : Int, z = x1 ∨ z = x2 ∨ z = x3 → Q (.int z) H) : rIx K (.ref p) (.int i) H Q := by
  rcases (show i = 1 ∨ i = 2 ∨ i = 3 by omega) with rfl | rfl | rfl
  · exact w_ixL' h (atI_nat (j := 1) rfl) (k _ (by omega))
  · exact w_ixL' h (atI_nat (j := 2) rfl) (k _ (by omega))
  · exact w_ixL' h (atI_nat (j := 3) rfl) (k _ (by omega))
theorem w_gLstL {K : PySem.W.Frag} {H : Hp} {Q : VK} {p : Addr} {ys : List V} (h : SqL K H p ys) (k : ∀ l H', H l = none → Sm H H' → H' l = some (.lst ys) → Q (.ref l) H') : gLst K [.ref p] H Q := ⟨p, ys, rfl, .inl h, fun l hl => k l _ hl (sm_new hl) upd_same⟩
theorem w_gTplL {K : PySem.W.Frag} {H : Hp} {Q : VK} {p : Addr} {ys : List V} (h : SqL K H p ys) (k : ∀ l H', H l = none → Sm H H' → H' l = some (.tup ys) → Q (.ref l) H') : gTpl K [.ref p] H Q := ⟨p, ys, rfl, .inl ⟨h, fun l hl => k l _ hl (sm_new hl) upd_same⟩⟩
theorem dp_ints {K : PySem.W.Frag} {H : Hp} : ∀ ns : List Int, DpAll K H (ns.map V.int) (ns.map PyData.int)
  | [] => .nil
  | n :: ns => .cons (.int n) (dp_ints ns)
theorem w_neInts {K : PySem.W.Frag} {H : Hp} {Q : VK} {a b : Addr} {ns : List Int} (h1 : SqL K H a (ns.map V.int)) (h2 : SqL K H b (ns.map V.int)) (k : Q (.bl false) H) : gNe K (.ref a) (.ref b) H Q := by
  refine .inr ⟨.list (ns.map .int), .list (ns.map .int), .lst h1 (dp_ints ns), .lst h2 (dp_ints ns), PySem.W.ke_shaped_ints ns, PySem.W.ke_shaped_ints ns, ?_⟩
  have e : PyData.eqv (.list (ns.map .int)) (.list (ns.map .int)) = true := by
    rw [PyData.eqv, PySem.W.ked_eqvAll]
    exact decide_eq_true rfl
  rw [e]
  exact k
local macro_rules | `(tactic| tm_at "rs") => `(tactic| first | ((with_reducible refine' w_gLstL ?h (fun _ _ _ _ _ => ?k)); (case h => tm_at "rsq")) | fail "no")
local macro_rules | `(tactic| tm_at "rs") => `(tactic| first | ((with_reducible refine' w_gTplL ?h (fun _ _ _ _ _ => ?k)); (case h => tm_at "rsq")) | fail "no")
local macro_rules | `(tactic| tm_at "rs") => `(tactic| first | ((with_reducible refine' w_neInts ?h ?i ?k); (case h => tm_at "rsq"); (case i => tm_at "rsq")) | fail "no")
local macro_rules | `(tactic| tm_at "rs") => `(tactic| first | ((with_reducible refine' w_rep1 ?h ?i ?j (fun _ _ _ _ _ => ?k)); (case h => tm_at "rlk"); (case i => omega); (case j => omega)) | fail "no")
local macro_rules | `(tactic| tm_at "rs") => `(tactic| first | ((with_reducible refine' w_addInts ?h ?i ?z (fun _ _ _ _ _ => ?k)); (case h => tm_at "rlk"); (case i => tm_at "rlk"); (case z => (simp only [List.length_append, List.length_replicate]; omega))) | fail "no")
local macro_rules | `(tactic| tm_at "rs") => `(tactic| first | ((with_reducible refine' w_ix4P ?h ?a ?b (fun _ _ => ?k)); (case h => tm_at "rsq"); (case a => omega); (case b => omega)) | fail "no")
local macro_rules | `(tactic| tm_at "rs") => `(tactic| with_reducible refine w_iRv ?_)

/-! bits of ints that are not negative -/
theorem and_nn {a b : Nat} : Builtin.bitAnd (a : Int) (b : Int) = ((a &&& b : Nat) : Int) := by
  have h := bitAnd_pp (Int.natCast_nonneg a) (Int.natCast_nonneg b)
  rw [Int.toNat_natCast, Int.toNat_natCast] at h
  exact h
theorem and_one {i : Int} (h : 0 ≤ i) : Builtin.bitAnd i 1 = i % 2 := by
  obtain ⟨n, rfl⟩ := Int.eq_ofNat_of_zero_le h
  have e := @and_nn n 1
  rw [show ((1 : Nat) : Int) = 1 from rfl] at e
  rw [e, Nat.and_one_is_mod]
  omega

/-! a number's bits as a text -/
def bl : Nat → List Nat
  | 0 => []
  | n + 1 => bl ((n + 1) / 2) ++ [48 + (n + 1) % 2]
termination_by n => n
decreasing_by omega
theorem bl_eq {n : Nat} (h : 0 < n) : bl n = bl (n / 2) ++ [48 + n % 2] := by
  cases n with
  | zero => omega
  | succ n => rw [bl]
theorem bl_zero : bl 0 = [] := by rw [bl]
theorem bl_len : ∀ (e n : Nat), n < 2 ^ e → (bl n).length ≤ e
  | 0, n, h => by
    rw [Nat.pow_zero] at h
    rw [show n = 0 by omega, bl_zero]
    exact Nat.le_refl _
  | e + 1, n, h => by
    rw [Nat.pow_succ] at h
    by_cases h0 : 0 < n
    · rw [bl_eq h0, List.length_append]
      have := bl_len e (n / 2) (by omega)
      show _ + 1 ≤ e + 1
      omega
    · rw [show n = 0 by omega, bl_zero]
      exact Nat.zero_le _
theorem bl_bit (n : Nat) : ∀ c ∈ bl n, Bit2 c := by
  induction n using Nat.strongRecOn with
  | ind n ih =>
    intro c hc
    by_cases h0 : 0 < n
    · rw [bl_eq h0] at hc
      rcases List.mem_append.mp hc with hc | hc
      · exact ih (n / 2) (by omega) c hc
      · rw [List.mem_singleton.mp hc]
        unfold Bit2
        omega
    · rw [show n = 0 by omega, bl_zero] at hc
      cases hc
theorem num2_snoc (l : List Nat) (c : Nat) : num2 (l ++ [c]) = num2 l * 2 + (c - 48) := by
  unfold num2
  rw [List.foldl_append]
  rfl
theorem num2_bl (n : Nat) : num2 (bl n) = n := by
  induction n using Nat.strongRecOn with
  | ind n ih =>
    by_cases h0 : 0 < n
    · rw [bl_eq h0, num2_snoc, ih (n / 2) (by omega)]
      omega
    · rw [show n = 0 by omega, bl_zero]
      rfl
def btl (n : Nat) : List Nat := if n = 0 then [48] else bl n
theorem btl_zero : btl 0 = [48] := if_pos rfl
theorem btl_pos {n : Nat} (h : 0 < n) : btl n = bl n := if_neg (by omega)
theorem bl_ne {n : Nat} (h : 0 < n) : bl n ≠ [] := by
  rw [bl_eq h]
  intro e
  have := congrArg List.length e
  rw [List.length_append] at this
  simp at this
theorem btl_ne (n : Nat) : btl n ≠ [] := by
  by_cases h : 0 < n
  · rw [btl_pos h]; exact bl_ne h
  · rw [show n = 0 by omega, btl_zero]; intro e; cases e
theorem btl_bit (n : Nat) : ∀ c ∈ btl n, Bit2 c := by
  by_cases h : 0 < n
  · rw [btl_pos h]; exact bl_bit n
  · rw [show n = 0 by omega, btl_zero]
    intro c hc
    exact .inl (List.mem_singleton.mp hc)
theorem btl_len {e n : Nat} (h : n < 2 ^ e) (he : 1 ≤ e) : (btl n).length ≤ e := by
  by_cases h0 : 0 < n
  · rw [btl_pos h0]; exact bl_len e n h
  · rw [show n = 0 by omega, btl_zero]; exact he
theorem num2_zeros (l : List Nat) : ∀ k : Nat, num2 (List.replicate k 48 ++ l) = num2 l
  | 0 => rfl
  | k + 1 => num2_zeros l k
theorem num2_btl (n : Nat) : num2 (btl n) = n := by
  by_cases h : 0 < n
  · rw [btl_pos h]; exact num2_bl n
  · rw [show n = 0 by omega, btl_zero]; rfl
theorem str_ext {a b : Str} (h : a.cps.toList = b.cps.toList) : a = b := by
  cases a
  cases b
  congr 1
  exact Array.toList_inj.mp h
def sg (c : Nat) : Str := ⟨#[c]⟩
theorem app_tl (a b : Str) : (a ++ b).cps.toList = a.cps.toList ++ b.cps.toList := Array.toList_append
theorem join_fold (e : Str) (he : e.cps = #[]) : ∀ (cs : List Nat) (a : Array Nat), ((cs.map sg).foldl (fun acc p => acc ++ e.cps ++ p.cps) a).toList = a.toList ++ cs
  | [], a => by simp
  | c :: cs, a => by
    rw [List.map_cons, List.foldl_cons, join_fold e he cs, he]
    simp [sg]
theorem join_sg (cs : List Nat) : (Txt.join (Str.ofString "") (cs.map sg)).cps.toList = cs := by
  cases cs with
  | nil => rfl
  | cons c cs => exact join_fold (Str.ofString "") rfl cs #[c]
theorem tos_bit {i : Int} (h : i = 0 ∨ i = 1) : ((toString i : String) : Str) = sg (48 + i.toNat) := by
  rcases h with rfl | rfl <;> rfl
/-! lists of texts -/
theorem dp_strs {K : PySem.W.Frag} {H : Hp} : ∀ ys : List Str, DpAll K H (ys.map V.str) (ys.map PyData.str)
  | [] => .nil
  | y :: ys => .cons (.str y) (dp_strs ys)
theorem lay_strs : ∀ ys : List Str, (∀ y ∈ ys, PyData.strOk y = true) → PyData.canLayAll0 (ys.map PyData.str) = true ∧ PyData.depthAll (ys.map PyData.str) = 0
  | [], _ => ⟨rfl, rfl⟩
  | y :: ys, h => by
    obtain ⟨h1, h2⟩ := lay_strs ys (fun z hz => h z (List.mem_cons_of_mem _ hz))
    have h3 := h y List.mem_cons_self
    exact ⟨by simp [PyData.canLayAll0, PyData.canLay0, h1, h3], by simp [PyData.depthAll, PyData.depth, h2]⟩
theorem shp_strs {ys : List Str} (h : ∀ y ∈ ys, PyData.strOk y = true) : SeqAt.shaped (.list (ys.map PyData.str)) = true := by
  obtain ⟨h1, h2⟩ := lay_strs ys h
  simp [SeqAt.shaped, PyData.canLay0, PyData.depth, h1, h2]
theorem sg_ok {cs : List Nat} (h : ∀ c ∈ cs, c < 1000) : ∀ y ∈ cs.map sg, PyData.strOk y = true := fun y hy => by
  obtain ⟨c, hc, rfl⟩ := List.mem_map.mp hy
  have := h c hc
  unfold PyData.strOk sg
  simp
  omega
theorem w_eqNilT {K : PySem.W.Frag} {H : Hp} {Q : VK} {a b : Addr} {ys : List Str} (h1 : SqL K H a (ys.map V.str)) (h2 : SqL K H b []) (ok : ∀ y ∈ ys, PyData.strOk y = true) (k : Q (.bl (decide (ys = []))) H) : gEq K (.ref a) (.ref b) H Q := by
  refine .inr ⟨.list (ys.map .str), .list (([] : List Str).map .str), .lst h1 (dp_strs _), .lst h2 .nil, shp_strs ok, shp_strs (fun y hy => by cases hy), ?_⟩
  have e : PyData.eqv (.list (ys.map .str)) (.list (([] : List Str).map .str)) = decide (ys = []) := by
    rw [PyData.eqv]
    cases ys <;> rfl
  rw [e]
  exact k
def RevE (K : PySem.W.Frag) (Q : VK) (x : V) (H1 : Hp) : Prop := ∃ a xs, x = .ref a ∧ SqL K H1 a xs ∧ ∀ p, H1 p = none → Q (.ref p) (upd H1 p (.lst xs.reverse))
theorem w_revL {K : PySem.W.Frag} {σ : L2.St} {H : Hp} {Q : VK} {te : TE} (k : te σ H fun x H1 => RevE K Q x H1) : tRevL K te σ H Q := k
theorem w_revE {K : PySem.W.Frag} {H : Hp} {Q : VK} {a : Addr} {xs : List V} (h : SqL K H a xs) (k : ∀ p H', H p = none → Sm H H' → H' p = some (.lst xs.reverse) → Q (.ref p) H') : RevE K Q (.ref a) H := ⟨a, xs, rfl, h, fun p hp => k p _ hp (sm_new hp) upd_same⟩
/-! x or y, x a text -/
def OrS (K : PySem.W.Frag) (tb : TE) (σ : L2.St) (Q : VK) (x : V) (H1 : Hp) : Prop := ∃ k, TruV K x H1 k ∧ if k = true then Q x H1 else tb σ H1 Q
theorem w_orT {K : PySem.W.Frag} {ta tb : TE} {σ : L2.St} {H : Hp} {Q : VK} (k : ta σ H fun x H1 => OrS K tb σ Q x H1) : tOrT K ta tb σ H Q := k
theorem w_orS {K : PySem.W.Frag} {tb : TE} {σ : L2.St} {H : Hp} {Q : VK} {z : Str} (zl : z.length ≤ sizeLine) (k1 : z.cps.toList ≠ [] → Q (.str z) H) (k2 : z.cps.toList = [] → tb σ H Q) : OrS K tb σ Q (.str z) H := by
  refine ⟨_, ⟨zl, rfl⟩, ?_⟩
  have e : z.length = z.cps.toList.length := (tl_len z).symm
  cases h : z.cps.toList with
  | nil =>
    rw [h] at e
    rw [e]
    exact k2 h
  | cons c l =>
    rw [h] at e
    rw [e, if_pos (by rw [bne_iff_ne, List.length_cons]; omega)]
    exact k1 (by rw [h]; intro z; cases z)
def gStrB : List V → Hp → VK → Prop := fun xs H Q => ∃ i : Int, xs = [.int i] ∧ i.natAbs.log2 < 1920 ∧ Q (.str (toString i)) H
theorem call_gStrB {X : Cx} : CallR X (.type "str") gStrB := call_str_int
theorem w_strB {i : Int} {H : Hp} {Q : VK} (h : i = 0 ∨ i = 1) (k : Q (.str (sg (48 + i.toNat))) H) : gStrB [.int i] H Q := by
  refine ⟨i, rfl, ?_, ?_⟩
  · rcases h with rfl | rfl <;> decide
  · rw [tos_bit h]; exact k
/-! a nought, so often -/
theorem zeros_ok {m : Int} (h0 : 0 ≤ m) (h1 : m ≤ 10000) : MulOk (Str.ofString "0") m := by
  have e : (Str.ofString "0").length = 1 := rfl
  refine ⟨?_, fun h _ => ?_, fun _ _ => ?_⟩
  · rw [Bool.or_eq_false_iff, decide_eq_false_iff_not, decide_eq_false_iff_not]
    exact ⟨by omega, by omega⟩
  · rw [e]
    have : (1 : Int) ≤ (2 ^ 63 - 1) / m := by
      rw [Int.le_ediv_iff_mul_le (by omega)]
      omega
    omega
  · rw [e]
    show decide (1 * m.toNat > sizeLine) = false
    rw [decide_eq_false_iff_not]
    have : m.toNat ≤ sizeLine := sz_of (by omega)
    omega
theorem rep_fold (c : Nat) : ∀ (n : Nat) (a : Array Nat), ((List.replicate n (#[c] : Array Nat)).foldl (· ++ ·) a).toList = a.toList ++ List.replicate n c
  | 0, a => by simp
  | n + 1, a => by
    rw [List.replicate_succ, List.foldl_cons, rep_fold c n, Array.toList_append, List.append_assoc]
    rfl
theorem zeros_tl {m : Int} (h0 : 0 ≤ m) : (Txt.mul (Str.ofString "0") m).cps.toList = List.replicate m.toNat 48 := by
  unfold Txt.mul
  split
  · rw [show m = 0 by omega]; rfl
  · split
    · rename_i h
      rcases Bool.or_eq_true_iff.mp h with e | e
      · rw [beq_iff_eq.mp e]; rfl
      · cases e
    · exact rep_fold 48 m.toNat #[]
local macro_rules | `(tactic| tm_at "rs") => `(tactic| first | with_reducible refine w_revL ?_ | ((with_reducible refine' w_revE ?h (fun _ _ _ _ _ => ?k)); (case h => tm_at "rsq")) | with_reducible refine w_orT ?_ | fail "no")

/-! texts of plain signs -/
def Low (z : Str) : Prop := ∀ c ∈ z.cps.toList, c < 128
theorem Low.app {a b : Str} (h : Low a) (k : Low b) : Low (a ++ b) := fun c hc => by
  rw [app_tl] at hc
  rcases List.mem_append.mp hc with hc | hc
  · exact h c hc
  · exact k c hc
theorem Low.cut {z : Str} (h : Low z) (lo hi : Option Int) : Low (cutS z lo hi) := fun c hc => by
  refine h c ?_
  unfold cutS at hc
  have e : ∀ l : List Nat, (⟨l.toArray⟩ : Str).cps.toList = l := fun l => rfl
  rw [e] at hc
  exact List.mem_of_mem_drop (List.mem_of_mem_take hc)
theorem Low.sg {z : Str} {i c : Nat} (h : Low z) (e : z.cps.toList[i]? = some c) : Low (⟨#[c]⟩ : Str) := fun x hx => by
  have hx : x ∈ [c] := hx
  rw [List.mem_singleton.mp hx]
  exact h c (List.mem_of_getElem? e)
theorem signs_low : Low (Str.ofString "abcdefghijklmnopqrstuvwxyz0123456789") := by
  have h : (Str.ofString "abcdefghijklmnopqrstuvwxyz0123456789").cps.toList.all (fun c => decide (c < 128)) = true := by decide +kernel
  intro c hc
  exact of_decide_eq_true (List.all_eq_true.mp h c hc)
theorem zeros_low (m : Int) (h : 0 ≤ m) : Low (Txt.mul (Str.ofString "0") m) := fun c hc => by
  rw [zeros_tl h] at hc
  rw [List.eq_of_mem_replicate hc]
  decide

/-- a list of texts as names -/
def PoolAt (H : Hp) (p : Addr) (ys : List Str) : Prop := H p = some (.lst (ys.map V.str)) ∧ ∀ y ∈ ys, y.length ≤ 20 ∧ Low y
theorem PoolAt.sm {H H' : Hp} {p : Addr} {ys : List Str} (h : PoolAt H p ys) (e : Sm H H') : PoolAt H' p ys := ⟨e _ _ h.1, h.2⟩
/-! tuples stay as they are -/
def Tk (H H' : Hp) : Prop := ∀ p xs, H p = some (.tup xs) → H' p = some (.tup xs)
theorem Tk.refl (H : Hp) : Tk H H := fun _ _ h => h
theorem Tk.trans {H H1 H2 : Hp} (a : Tk H H1) (b : Tk H1 H2) : Tk H H2 := fun p xs h => b p xs (a p xs h)
theorem Tk.sm {H H' : Hp} (e : Sm H H') : Tk H H' := fun _ _ h => e _ _ h
theorem Tk.kp {H H' : Hp} {b : Addr} {ys : List V} (hb : H b = some (.lst ys)) (e : Kp b H H') : Tk H H' := fun p xs q => e _ _ (by
  intro z
  rw [z, hb] at q
  cases q) q
theorem Tk.kd {H H' : Hp} {b : Addr} {ys : List (Key × V)} (hb : H b = some (.dK ys)) (e : Kp b H H') : Tk H H' := fun p xs q => e _ _ (by
  intro z
  rw [z, hb] at q
  cases q) q
theorem Tk.ki {H H' : Hp} {b C dx : Addr} {ys : List (Str × V)} (hb : H b = some (.ins C dx ys)) (e : Kp b H H') : Tk H H' := fun p xs q => e _ _ (by
  intro z
  rw [z, hb] at q
  cases q) q
theorem Tk.kb {H H' : Hp} {b : Addr} (hb : BoxAt H b) (e : Kp b H H') : Tk H H' := by
  obtain ⟨x, s, hb, _⟩ := hb
  exact Tk.kp hb e
theorem Tk.kn {H H' : Hp} {b : Addr} (hb : H b = none) (e : Kp b H H') : Tk H H' := fun p xs q => e _ _ (ne_of_none q hb) q
local macro_rules | `(tactic| tm_at "rtk") => `(tactic| first | with_reducible assumption | exact Tk.refl _ | tm_at "rtk1" | ((refine' Tk.trans ?sa ?sb); (case sb => tm_at "rtk1"); (case sa => tm_at "rtk")) | fail "no")
local macro_rules | `(tactic| tm_at "rtk1") => `(tactic| first | exact Tk.sm (by with_reducible assumption) | ((refine' Tk.kb ?sa ?sb); (case sb => with_reducible assumption); (case sa => tm_at "rbx")) | ((refine' Tk.kp ?sa ?sb); (case sb => with_reducible assumption); (case sa => tm_at "rlk")) | ((refine' Tk.kd ?sa ?sb); (case sb => with_reducible assumption); (case sa => tm_at "rlk")) | ((refine' Tk.ki ?sa ?sb); (case sb => with_reducible assumption); (case sa => tm_at "rlk")) | ((refine' Tk.kn ?sa ?sb); (case sb => with_reducible assumption); (case sa => tm_at "rfr")) | with_reducible assumption | fail "no")
theorem g_tk {H H0 H1 : Hp} (_ : Tk H0 H1) (h : Tk H H1) : Tk H H1 := h
/-- a tuple, told ahead -/
theorem tk_lk {H H' : Hp} {p : Addr} {xs : List V} (h : H p = some (.tup xs)) (e : Tk H H') : H' p = some (.tup xs) := e _ _ h
local macro_rules | `(tactic| tm_at "rlk0") => `(tactic| first | ((refine' tk_lk ?sb ?sa); (case sa => with_reducible assumption); (case sb => tm_at "rlk0")) | fail "no")
/-! what stands in nested tuples -/
mutual
def TpD (H : Hp) : PyData → V → Prop
  | .tuple ds, v => ∃ p xs, v = .ref p ∧ H p = some (.tup xs) ∧ TpL H ds xs
  | .int i, v => v = .int i
  | .str s, v => v = .str s
  | .bool b, v => v = .bl b
  | .none, v => v = .non
  | .list _, _ => False
  | .dict _, _ => False
def TpL (H : Hp) : List PyData → List V → Prop
  | [], xs => xs = []
  | d :: ds, xs => ∃ v vs, xs = v :: vs ∧ TpD H d v ∧ TpL H ds vs
end
mutual
theorem TpD.tk {H H' : Hp} (e : Tk H H') : ∀ (d : PyData) (v : V), TpD H d v → TpD H' d v
  | .tuple ds, v, h => by
    unfold TpD at h ⊢
    obtain ⟨p, xs, rfl, q, r⟩ := h
    exact ⟨p, xs, rfl, e _ _ q, TpL.tk e ds xs r⟩
  | .int i, v, h => by unfold TpD at h ⊢; exact h
  | .str s, v, h => by unfold TpD at h ⊢; exact h
  | .bool b, v, h => by unfold TpD at h ⊢; exact h
  | .none, v, h => by unfold TpD at h ⊢; exact h
  | .list _, v, h => by unfold TpD at h; exact h.elim
  | .dict _, v, h => by unfold TpD at h; exact h.elim
theorem TpL.tk {H H' : Hp} (e : Tk H H') : ∀ (ds : List PyData) (xs : List V), TpL H ds xs → TpL H' ds xs
  | [], xs, h => by unfold TpL at h ⊢; exact h
  | d :: ds, xs, h => by
    unfold TpL at h ⊢
    obtain ⟨v, vs, rfl, q, r⟩ := h
    exact ⟨v, vs, rfl, TpD.tk e d v q, TpL.tk e ds vs r⟩
end
mutual
theorem TpD.dp {K : PySem.W.Frag} {H : Hp} : ∀ (d : PyData) (v : V), TpD H d v → Dp K H v d
  | .tuple ds, v, h => by
    unfold TpD at h
    obtain ⟨p, xs, rfl, q, r⟩ := h
    exact .tup (st_of q) (TpL.dp ds xs r)
  | .int i, v, h => by unfold TpD at h; subst h; exact .int _
  | .str s, v, h => by unfold TpD at h; subst h; exact .str _
  | .bool b, v, h => by unfold TpD at h; subst h; exact .bl _
  | .none, v, h => by unfold TpD at h; subst h; exact .non
  | .list _, v, h => by unfold TpD at h; exact h.elim
  | .dict _, v, h => by unfold TpD at h; exact h.elim
theorem TpL.dp {K : PySem.W.Frag} {H : Hp} : ∀ (ds : List PyData) (xs : List V), TpL H ds xs → DpAll K H xs ds
  | [], xs, h => by unfold TpL at h; subst h; exact .nil
  | d :: ds, xs, h => by
    unfold TpL at h
    obtain ⟨v, vs, rfl, q, r⟩ := h
    exact .cons (TpD.dp d v q) (TpL.dp ds vs r)
end
theorem tpd_t {H : Hp} {p : Addr} {xs : List V} {ds : List PyData} (h : H p = some (.tup xs)) (k : TpL H ds xs) : TpD H (.tuple ds) (.ref p) := by
  unfold TpD
  exact ⟨p, xs, rfl, h, k⟩
theorem tpd_i {H : Hp} {i : Int} : TpD H (.int i) (.int i) := by
  unfold TpD
  rfl
theorem tpd_s {H : Hp} {s : Str} : TpD H (.str s) (.str s) := by
  unfold TpD
  rfl
theorem tpl_nil {H : Hp} : TpL H [] [] := by
  unfold TpL
  rfl
theorem tpl_cons {H : Hp} {d : PyData} {ds : List PyData} {v : V} {vs : List V} (h : TpD H d v) (k : TpL H ds vs) : TpL H (d :: ds) (v :: vs) := by
  unfold TpL
  exact ⟨v, vs, rfl, h, k⟩
def nV (l : List Nat) : List V := l.map fun t => V.int (t : Nat)
def nD (l : List Nat) : List PyData := l.map fun t => PyData.int (t : Nat)
theorem tpl_nat {H : Hp} : ∀ l : List Nat, TpL H (nD l) (nV l)
  | [] => tpl_nil
  | x :: l => tpl_cons tpd_i (tpl_nat l)
theorem nV_snoc (l : List Nat) (x : Nat) : nV (l ++ [x]) = nV l ++ [V.int (x : Nat)] := List.map_append
theorem nV_len (l : List Nat) : (nV l).length = l.length := List.length_map _
theorem nV_app (l m : List Nat) : nV (l ++ m) = nV l ++ nV m := List.map_append
theorem nV_get {l : List Nat} {j x : Nat} (h : l[j]? = some x) : (nV l)[j]? = some (.int (x : Nat)) := by
  unfold nV
  rw [List.getElem?_map, h]
  rfl
theorem nV_take (l : List Nat) (n : Nat) : (nV l).take n = nV (l.take n) := by
  unfold nV
  rw [List.map_take]
theorem nV_drop (l : List Nat) (n : Nat) : (nV l).drop n = nV (l.drop n) := by
  unfold nV
  rw [List.map_drop]
theorem paired_last {α β : Type} {R : α → β → Prop} : ∀ {l : List α} {m : List β} {y : β}, Paired R l (m ++ [y]) → ∃ l' x, l = l' ++ [x] ∧ Paired R l' m ∧ R x y
  | _, [], _, .cons h .nil => ⟨[], _, rfl, .nil, h⟩
  | _, _ :: m, _, .cons h r => by
    obtain ⟨l', x, rfl, r1, r2⟩ := paired_last r
    exact ⟨_ :: l', x, rfl, .cons h r1, r2⟩
theorem paired_app {α β : Type} {R : α → β → Prop} : ∀ {l : List α} {m : List β} {l' : List α} {m' : List β}, Paired R l m → Paired R l' m' → Paired R (l ++ l') (m ++ m')
  | _, _, _, _, .nil, h => h
  | _, _, _, _, .cons a b, h => .cons a (paired_app b h)
theorem paired_mono {α β : Type} {F G : α → β → Prop} (h : ∀ p q, F p q → G p q) : ∀ {l : List α} {k : List β}, Paired F l k → Paired G l k
  | _, _, .nil => .nil
  | _, _, .cons a b => .cons (h _ _ a) (paired_mono h b)
theorem paired_len {α β : Type} {R : α → β → Prop} : ∀ {l : List α} {m : List β}, Paired R l m → l.length = m.length
  | _, _, .nil => rfl
  | _, _, .cons _ b => by rw [List.length_cons, List.length_cons, paired_len b]
theorem paired_get {α β : Type} {R : α → β → Prop} : ∀ {l : List α} {m : List β} {i : Nat} {x : α}, Paired R l m → l[i]? = some x → ∃ y, m[i]? = some y ∧ R x y
  | _, _, 0, _, .cons a b, h => ⟨_, rfl, by cases h; exact a⟩
  | _, _, i + 1, _, .cons a b, h => paired_get (i := i) b h
  | _, _, _, _, .nil, h => by cases h
theorem paired_getR {α β : Type} {R : α → β → Prop} : ∀ {l : List α} {m : List β} {i : Nat} {y : β}, Paired R l m → m[i]? = some y → ∃ x, l[i]? = some x ∧ R x y
  | _, _, 0, _, .cons a b, h => ⟨_, rfl, by cases h; exact a⟩
  | _, _, i + 1, _, .cons a b, h => paired_getR (i := i) b h
  | _, _, _, _, .nil, h => by cases h
theorem paired_rep {α β : Type} {R : α → β → Prop} {x : α} {y : β} (h : R x y) : ∀ n : Nat, Paired R (List.replicate n x) (List.replicate n y)
  | 0 => .nil
  | n + 1 => .cons h (paired_rep h n)
theorem w_rep1V {H : Hp} {Q : VK} {l : Addr} {v : V} {j : Int} (h : H l = some (.lst [v])) (h0 : 0 ≤ j) (h1 : j ≤ 1000) (k : ∀ p H', H p = none → Sm H H' → H' p = some (.lst (List.replicate j.toNat v)) → Q (.ref p) H') : gMul (.ref l) (.int j) H Q := by
  refine .inr (.inr ⟨l, j, _, rfl, rfl, h, by omega, by omega, sz_of ?_, fun p hp => k p _ hp (sm_new hp) ?_⟩)
  · show 1 * j.toNat ≤ _
    omega
  · rw [upd_same, List.flatten_replicate_singleton]
/-- one of a list -/
theorem w_ixP {K : PySem.W.Frag} {H : Hp} {Q : VK} {p : Addr} {xs : List V} {i : Int} (P : V → Prop) (h : SqL K H p xs ∨ SqT K H p xs) (h0 : 0 ≤ i) (h1 : i < (xs.length : Int)) (hx : ∀ x ∈ xs, P x) (k : ∀ x, P x → Q x H) : rIx K (.ref p) (.int i) H Q := by
  obtain ⟨j, rfl⟩ := Int.eq_ofNat_of_zero_le h0
  have hj : j < xs.length := by omega
  have e := List.getElem?_eq_getElem hj
  rcases h with h | h
  · exact w_ixL' h (atI_nat e) (k _ (hx _ (List.getElem_mem hj)))
  · exact w_ixT h (atI_nat e) (k _ (hx _ (List.getElem_mem hj)))
theorem w_ixN {K : PySem.W.Frag} {H : Hp} {Q : VK} {p : Addr} {xs : List Nat} {i : Int} (h : SqL K H p (nV xs) ∨ SqT K H p (nV xs)) (h0 : 0 ≤ i) (h1 : i < (xs.length : Int)) (k : ∀ x ∈ xs, Q (.int (x : Nat)) H) : rIx K (.ref p) (.int i) H Q :=
  w_ixP (fun v => ∃ x ∈ xs, v = .int (x : Nat)) h h0 (by rw [nV_len]; exact h1) (fun v hv => by
    obtain ⟨x, hx, e⟩ := List.mem_map.mp hv
    exact ⟨x, hx, e.symm⟩) (fun v hv => by
    obtain ⟨x, hx, rfl⟩ := hv
    exact k x hx)
theorem all2 {P : V → Prop} {x y : V} (hx : P x) (hy : P y) : ∀ z ∈ [x, y], P z := fun z hz => by
  rcases List.mem_cons.mp hz with rfl | hz
  · exact hx
  · rw [List.mem_singleton.mp hz]
    exact hy
theorem all3 {P : V → Prop} {x y u : V} (hx : P x) (hy : P y) (hu : P u) : ∀ z ∈ [x, y, u], P z := fun z hz => by
  rcases List.mem_cons.mp hz with rfl | hz
  · exact hx
  · exact all2 hy hu z hz
/-! a tuple that stands, or one of the module's own -/
def TpK (K : PySem.W.Frag) (H : Hp) (p : Addr) (xs : List V) : Prop := H p = some (.tup xs) ∨ ∀ H' : Hp, SqT K H' p xs
theorem TpK.imp {K : PySem.W.Frag} {H H' : Hp} {p : Addr} {xs : List V} (h : TpK K H p xs) (e : Tk H H') : TpK K H' p xs := h.elim (fun h => .inl (e _ _ h)) .inr
theorem TpK.sq {K : PySem.W.Frag} {H : Hp} {p : Addr} {xs : List V} (h : TpK K H p xs) : SqT K H p xs := h.elim st_of fun h => h H
theorem TpK.of {K : PySem.W.Frag} {H : Hp} {p : Addr} {xs : List V} (h : H p = some (.tup xs)) : TpK K H p xs := .inl h
local macro_rules | `(tactic| tm_at "rtp") => `(tactic| first | with_reducible assumption | exact TpK.of (by with_reducible assumption) | ((refine' TpK.imp ?sa ?sb); (case sa => with_reducible assumption); (case sb => tm_at "rtk")) | fail "no")
local macro_rules | `(tactic| tm_at "rst") => `(tactic| first | with_reducible assumption | ((refine' st_of ?sz); (case sz => tm_at "rlk")) | ((refine' TpK.sq ?sz); (case sz => tm_at "rtp")) | fail "no")

/-! terms: nested pairs and triples -/
inductive Tm where
  | num (n : Nat)
  | name (s : Str)
  | op (w : Str) (a b : Tm)
def Tm.dep : Tm → Nat
  | .num _ => 0
  | .name _ => 0
  | .op _ a b => max a.dep b.dep + 1
def Tm.wt : Tm → Nat
  | .num _ => 1
  | .name _ => 1
  | .op _ a b => a.wt + b.wt + 2
theorem Tm.wt_pos : ∀ t : Tm, 1 ≤ t.wt
  | .num _ => Nat.le_refl _
  | .name _ => Nat.le_refl _
  | .op _ a b => by
    show 1 ≤ a.wt + b.wt + 2
    omega
def TmAt (K : PySem.W.Frag) (H : Hp) : Tm → V → Prop
  | .num n, v => ∃ p, v = .ref p ∧ TpK K H p [.str "num", .int (n : Int)]
  | .name s, v => ∃ p, v = .ref p ∧ TpK K H p [.str "name", .str s]
  | .op w a b, v => ∃ p x y, v = .ref p ∧ TpK K H p [.str w, x, y] ∧ TmAt K H a x ∧ TmAt K H b y
theorem TmAt.imp {K : PySem.W.Frag} {H H' : Hp} (h : Tk H H') : ∀ {t : Tm} {v : V}, TmAt K H t v → TmAt K H' t v
  | .num n, v, ⟨p, e, q⟩ => ⟨p, e, q.imp h⟩
  | .name s, v, ⟨p, e, q⟩ => ⟨p, e, q.imp h⟩
  | .op w a b, v, ⟨p, x, y, e, q, r1, r2⟩ => ⟨p, x, y, e, q.imp h, TmAt.imp h r1, TmAt.imp h r2⟩
theorem TmAt.tk {K : PySem.W.Frag} {H H' : Hp} {t : Tm} {v : V} (r : TmAt K H t v) (e : Tk H H') : TmAt K H' t v := r.imp e
theorem TmAt.sm {K : PySem.W.Frag} {H H' : Hp} {t : Tm} {v : V} (r : TmAt K H t v) (e : Sm H H') : TmAt K H' t v := r.imp (Tk.sm e)
theorem TmAt.kpL {K : PySem.W.Frag} {H H' : Hp} {t : Tm} {v : V} {b : Addr} {ys : List V} (r : TmAt K H t v) (hb : H b = some (.lst ys)) (e : Kp b H H') : TmAt K H' t v := r.imp (Tk.kp hb e)
theorem TmAt.kpD {K : PySem.W.Frag} {H H' : Hp} {t : Tm} {v : V} {b : Addr} {ys : List (Key × V)} (r : TmAt K H t v) (hb : H b = some (.dK ys)) (e : Kp b H H') : TmAt K H' t v := r.imp (Tk.kd hb e)
theorem tm_num {K : PySem.W.Frag} {H : Hp} {p : Addr} {n : Nat} (h : H p = some (.tup [.str "num", .int (n : Int)])) : TmAt K H (.num n) (.ref p) := ⟨p, rfl, .inl h⟩
theorem tm_name {K : PySem.W.Frag} {H : Hp} {p : Addr} {s : Str} (h : H p = some (.tup [.str "name", .str s])) : TmAt K H (.name s) (.ref p) := ⟨p, rfl, .inl h⟩
theorem tm_op {K : PySem.W.Frag} {H : Hp} {p : Addr} {w : Str} {x y : V} {a b : Tm} (h : H p = some (.tup [.str w, x, y])) (ha : TmAt K H a x) (hb : TmAt K H b y) : TmAt K H (.op w a b) (.ref p) := ⟨p, x, y, rfl, .inl h, ha, hb⟩
def cm (w : Str) (x y : Nat) : Nat := if w = "plus" then x + y else if w = "times" then x * y else x ^ y
def ev (g : Str → Nat) : Tm → Nat
  | .num n => n
  | .name s => g s
  | .op w a b => cm w (ev g a) (ev g b)
def PwOk (x y n : Nat) : Prop := y * (n - 1) < 1000000 ∧ ∃ r : Nat, x ^ y < 2 ^ r ∧ r ≤ 1000000
theorem pw_of {x y n : Nat} (hx : x < 2 ^ n) (n1 : 1 ≤ n) (h : n * y ≤ 1000000) : PwOk x y n := by
  rcases Nat.eq_zero_or_pos y with h0 | h0
  · subst h0
    refine ⟨by omega, 1, ?_, by decide⟩
    rw [Nat.pow_zero]
    decide
  · refine ⟨?_, n * y, ?_, h⟩
    · rw [Nat.mul_comm] at h
      rw [Nat.mul_sub, Nat.mul_one]
      have := Nat.le_mul_of_pos_right y (show 0 < n by omega)
      omega
    · rw [Nat.pow_mul]
      exact Nat.pow_lt_pow_left hx (by omega)
def CmOk (w : Str) (x y : Nat) : Prop := ∃ n : Nat, 1 ≤ n ∧ x < 2 ^ n ∧ ((w = "plus" ∧ y < 2 ^ n ∧ n + 1 ≤ 1000000) ∨ (w = "times" ∧ ∃ m : Nat, y < 2 ^ m ∧ n + m ≤ 1000000) ∨ (w ≠ "plus" ∧ w ≠ "times" ∧ PwOk x y n))
def TmOk (kvs : List (Key × V)) (g : Str → Nat) : Tm → Prop
  | .num n => ∃ m : Nat, n < 2 ^ m ∧ m ≤ 1000000
  | .name s => valV kvs (.inr s) = some (.int (g s : Nat)) ∧ ∃ m : Nat, g s < 2 ^ m ∧ m ≤ 1000000
  | .op w a b => w ≠ "num" ∧ w ≠ "name" ∧ TmOk kvs g a ∧ TmOk kvs g b ∧ CmOk w (ev g a) (ev g b)
/-! fields of an own object -/
def FldE (K : PySem.W.Frag) (f : Str) (Q : VK) (x : V) (H1 : Hp) : Prop := ∃ (a C dx : Addr) (fs : List (Str × V)) (v : V), x = .ref a ∧ H1 a = some (.ins C dx fs) ∧ Cls K C ∧ NoAttr K C f ∧ fs.lookup f = some v ∧ Q v H1
theorem w_fld {K : PySem.W.Frag} {f : Str} {σ : L2.St} {H : Hp} {Q : VK} {ta : TE} (k : ta σ H fun x H1 => FldE K f Q x H1) : tFld K ta f σ H Q := k
def SFldE (K : PySem.W.Frag) (f : Str) (D : Ends) (σ : L2.St) (x y : V) (H2 : Hp) : Prop := ∃ (a C dx : Addr) (fs : List (Str × V)), x = .ref a ∧ H2 a = some (.ins C dx fs) ∧ Cls K C ∧ NoAttr K C f ∧ fs.length < 1000 ∧ D.nx σ (upd H2 a (.ins C dx (putF f y fs)))
theorem w_sfld {K : PySem.W.Frag} {f : Str} {D : Ends} {σ : L2.St} {H : Hp} {ta tv : TE} (k : tv σ H fun y H1 => ta σ H1 fun x H2 => SFldE K f D σ x y H2) : sFld K ta tv f D σ H := k
theorem w_sfldE {K : PySem.W.Frag} {f : Str} {D : Ends} {σ : L2.St} {y : V} {H : Hp} {a C dx : Addr} {fs : List (Str × V)} (h : H a = some (.ins C dx fs)) (c : Cls K C) (n : NoAttr K C f) (l : fs.length < 1000) (k : ∀ H', Kp a H H' → H' a = some (.ins C dx (putF f y fs)) → NX D σ H') : SFldE K f D σ (.ref a) y H :=
  ⟨a, C, dx, fs, rfl, h, c, n, l, k _ kp_upd upd_same⟩
/-! a dict's items -/
def DgE (Q : VK) (x y : V) (H2 : Hp) : Prop := ∃ a v, x = .ref a ∧ DGet H2 a y (some v) ∧ Q v H2
theorem w_dg {td ty : TE} {σ : L2.St} {H : Hp} {Q : VK} (k : td σ H fun x H1 => ty σ H1 fun y H2 => DgE Q x y H2) : tDGet td ty σ H Q := k
theorem w_dge {H : Hp} {Q : VK} {a : Addr} {s : Str} {v : V} {kvs : List (Key × V)} (h : H a = some (.dK kvs)) (e : valV kvs (.inr s) = some v) (k : Q v H) : DgE Q (.ref a) (.str s) H := ⟨a, v, rfl, .inl ⟨kvs, .inr s, .inl h, rfl, e.symm⟩, k⟩
def DpE (D : Ends) (σ : L2.St) (v x y : V) (H3 : Hp) : Prop := ∃ a H4, x = .ref a ∧ DPut H3 a y v H4 ∧ D.nx σ H4
theorem w_dp {td ty tv : TE} {D : Ends} {σ : L2.St} {H : Hp} (k : tv σ H fun v H1 => td σ H1 fun x H2 => ty σ H2 fun y H3 => DpE D σ v x y H3) : sDPut td ty tv D σ H := k
theorem w_dpe {D : Ends} {σ : L2.St} {H : Hp} {a : Addr} {s : Str} {v : V} {kvs : List (Key × V)} (h : H a = some (.dK kvs)) (l : kvs.length < sizeLine) (k : ∀ H', Kp a H H' → H' a = some (.dK (putK kvs (.inr s) v)) → NX D σ H') : DpE D σ v (.ref a) (.str s) H :=
  ⟨a, _, rfl, .inl ⟨kvs, .inr s, h, rfl, l, rfl⟩, k _ kp_upd upd_same⟩
theorem w_dnew {σ : L2.St} {H : Hp} {Q : VK} (k : ∀ p H', H p = none → Sm H H' → H' p = some (.dK []) → Q (.ref p) H') : tDNewK σ H Q := fun p hp => k p _ hp (sm_new hp) upd_same
def NiE (K : PySem.W.Frag) (w : World) (Q : VK) (y x : V) (H2 : Hp) : Prop := ∃ a z v, x = .ref a ∧ y = .str z ∧ (a == sysModules) = false ∧ KDct K w a z v ∧ Q (.bl false) H2
theorem w_ni {K : PySem.W.Frag} {w : World} {ty td : TE} {σ : L2.St} {H : Hp} {Q : VK} (k : ty σ H fun y H1 => td σ H1 fun x H2 => NiE K w Q y x H2) : tNiK K w ty td σ H Q := k
theorem w_nie {K : PySem.W.Frag} {w : World} {Q : VK} {H : Hp} {a : Addr} {z : Str} {ks : List Str} (d : KDs K w a ks) (hz : z ∈ ks) (k : Q (.bl false) H) : NiE K w Q (.str z) (.ref a) H := by
  obtain ⟨v, hv⟩ := d.2 z hz
  exact ⟨a, z, v, rfl, rfl, d.1, hv, k⟩
/-! an own object made -/
def MkE (C : Addr) (sp : Sp) (Q : VK) (E : XK) (vs : List V) (H1 : Hp) : Prop := ∀ x dx, H1 x = none → H1 dx = none → dx ≠ x → sp (.ref x :: (vs ++ [])) (upd (upd H1 dx (.own x)) x (.ins C dx [])) (fun v H2 => v = .non ∧ Q (.ref x) H2) E
theorem w_make {C : Addr} {sp : Sp} {σ : L2.St} {H : Hp} {Q : VK} {E : XK} {t : TA} (k : t σ H fun vs H1 => MkE C sp Q E vs H1) : tMake C sp [] E t σ H Q := k
/-! the last of a list taken, lists made longer -/
theorem w_bm0 {K : PySem.W.Frag} {T : String} {r : V → List V → Hp → VK → Prop} {to : TE} {σ : L2.St} {H : Hp} {Q : VK} (k : to σ H fun x H1 => tyV K T x H1 ∧ r x [] H1 Q) : tBM0 K T r to σ H Q := k
theorem w_pop {K : PySem.W.Frag} {H : Hp} {Q : VK} {l : Addr} {xs : List V} {y : V} (h : H l = some (.lst (xs ++ [y]))) (k : ∀ H', Kp l H H' → H' l = some (.lst xs) → Q y H') : tyV K "list" (.ref l) H ∧ rPop (.ref l) [] H Q := by
  refine ⟨ty_list h, l, _, y, rfl, rfl, h, ?_, k _ kp_upd ?_⟩
  · rw [List.length_append, List.getElem?_append_right (by show xs.length ≤ xs.length + 1 - 1; omega)]
    show [y][xs.length + 1 - 1 - xs.length]? = some y
    rw [show xs.length + 1 - 1 - xs.length = 0 by omega]
    rfl
  · rw [upd_same, List.dropLast_concat]
theorem w_ext {H : Hp} {Q : VK} {l b : Addr} {xs zs : List V} (h : H l = some (.lst xs)) (hb : H b = some (.lst zs)) (z : xs.length + zs.length ≤ sizeLine) (k : ∀ H', Kp l H H' → H' l = some (.lst (xs ++ zs)) → Q .non H') : rExtend (.ref l) [.ref b] H Q :=
  ⟨l, b, xs, zs, rfl, rfl, h, hb, z, k _ kp_upd upd_same⟩
local macro_rules | `(tactic| tm_at "rs") => `(tactic| first | with_reducible refine w_fld ?_ | with_reducible refine w_sfld ?_ | with_reducible refine w_dg ?_ | ((with_reducible refine' w_dge ?h ?e ?k); (case h => tm_at "rlk"); (case e => assumption)) | with_reducible refine w_dp ?_ | ((with_reducible refine' w_dpe ?h ?l (fun _ _ _ => ?k)); (case h => tm_at "rlk"); (case l => tm_at "rsz")) | with_reducible refine w_dnew (fun _ _ _ _ _ => ?_) | with_reducible refine w_ni ?_ | with_reducible refine w_make ?_ | with_reducible refine w_bm0 ?_ | ((with_reducible refine' w_pop ?h (fun _ _ _ => ?k)); (case h => tm_at "rlk")) | ((with_reducible refine' w_ext ?h ?i ?z (fun _ _ _ => ?k)); (case h => tm_at "rlk"); (case i => tm_at "rlk"); (case z => tm_at "rsz")) | fail "no")

theorem TmAt.kpB {K : PySem.W.Frag} {H H' : Hp} {t : Tm} {v : V} {b : Addr} (r : TmAt K H t v) (hb : BoxAt H b) (e : Kp b H H') : TmAt K H' t v := by
  obtain ⟨x, s, hb, _⟩ := hb
  exact r.kpL hb e
theorem w_ixStrs {K : PySem.W.Frag} {H : Hp} {Q : VK} {p : Addr} {ys : List Str} {i : Int} (h : SqL K H p (ys.map V.str)) (i0 : 0 ≤ i) (i1 : i < (ys.length : Int)) (k : ∀ s ∈ ys, Q (.str s) H) : rIx K (.ref p) (.int i) H Q := by
  obtain ⟨j, rfl⟩ := Int.eq_ofNat_of_zero_le i0
  have hj : j < ys.length := by omega
  exact w_ixL h (atI_nat (j := j) (by rw [List.getElem?_map, List.getElem?_eq_getElem hj]; rfl)) (k _ (List.getElem_mem hj))
local macro_rules | `(tactic| tm_at "rtm") => `(tactic| first | with_reducible assumption | ((refine' TmAt.sm ?sa ?sb); (case sb => with_reducible assumption); (case sa => tm_at "rtm")) | ((refine' TmAt.kpB ?sa ?sc ?sb); (case sb => with_reducible assumption); (case sc => tm_at "rbx"); (case sa => tm_at "rtm")) | ((refine' TmAt.kpL ?sa ?sc ?sb); (case sb => with_reducible assumption); (case sc => tm_at "rlk"); (case sa => tm_at "rtm")) | ((refine' TmAt.kpD ?sa ?sc ?sb); (case sb => with_reducible assumption); (case sc => tm_at "rlk"); (case sa => tm_at "rtm")) | fail "no")

/-- terms as the law draws them, of these names, so deep at most -/
inductive TmP (ys : List Str) : Nat → Tm → Prop
  | num {d n : Nat} : n < 1000 → TmP ys d (.num n)
  | name {d : Nat} {s : Str} : s ∈ ys → TmP ys d (.name s)
  | plus {d : Nat} {a b : Tm} : TmP ys d a → TmP ys d b → TmP ys (d + 1) (.op "plus" a b)
  | times {d : Nat} {a b : Tm} : TmP ys d a → TmP ys d b → TmP ys (d + 1) (.op "times" a b)
  | power {d : Nat} {a : Tm} {n : Nat} : TmP ys d a → n < 5 → TmP ys (d + 1) (.op "power" a (.num n))
/-! sayings: a word, two sides -/
def SayC (K : PySem.W.Frag) (C : Addr) : Prop := ClsN K "Saying" C ["word", "left", "right"]
def SayAt (K : PySem.W.Frag) (H : Hp) (v : V) (w : Str) (l r : V) : Prop := ∃ p C dx, v = .ref p ∧ SayC K C ∧ H p = some (.ins C dx [("word", .str w), ("left", l), ("right", r)])
theorem SayAt.sm {K : PySem.W.Frag} {H H' : Hp} {v l r : V} {w : Str} (h : SayAt K H v w l r) (e : Sm H H') : SayAt K H' v w l r := by
  obtain ⟨p, C, dx, rfl, c, q⟩ := h
  exact ⟨p, C, dx, rfl, c, e _ _ q⟩
theorem SayAt.kpL {K : PySem.W.Frag} {H H' : Hp} {v l r : V} {w : Str} {b : Addr} {ys : List V} (h : SayAt K H v w l r) (hb : H b = some (.lst ys)) (e : Kp b H H') : SayAt K H' v w l r := by
  obtain ⟨p, C, dx, rfl, c, q⟩ := h
  exact ⟨p, C, dx, rfl, c, e _ _ (by intro z; rw [z, hb] at q; cases q) q⟩
theorem w_fWord {K : PySem.W.Frag} {H : Hp} {Q : VK} {v l r : V} {w : Str} (h : SayAt K H v w l r) (k : Q (.str w) H) : FldE K "word" Q v H := by
  obtain ⟨p, C, dx, rfl, c, q⟩ := h
  exact ⟨p, C, dx, _, _, rfl, q, c.cl, c.na _ (by simp), rfl, k⟩
theorem w_fLeft {K : PySem.W.Frag} {H : Hp} {Q : VK} {v l r : V} {w : Str} (h : SayAt K H v w l r) (k : Q l H) : FldE K "left" Q v H := by
  obtain ⟨p, C, dx, rfl, c, q⟩ := h
  exact ⟨p, C, dx, _, _, rfl, q, c.cl, c.na _ (by simp), rfl, k⟩
theorem w_fRight {K : PySem.W.Frag} {H : Hp} {Q : VK} {v l r : V} {w : Str} (h : SayAt K H v w l r) (k : Q r H) : FldE K "right" Q v H := by
  obtain ⟨p, C, dx, rfl, c, q⟩ := h
  exact ⟨p, C, dx, _, _, rfl, q, c.cl, c.na _ (by simp), rfl, k⟩
local macro_rules | `(tactic| tm_at "rsay") => `(tactic| first | with_reducible assumption | ((refine' SayAt.sm ?sa ?sb); (case sb => with_reducible assumption); (case sa => tm_at "rsay")) | fail "no")
local macro_rules | `(tactic| tm_at "rs") => `(tactic| first | ((with_reducible refine' w_fWord ?h ?k); (case h => tm_at "rsay")) | ((with_reducible refine' w_fLeft ?h ?k); (case h => tm_at "rsay")) | ((with_reducible refine' w_fRight ?h ?k); (case h => tm_at "rsay")) | fail "no")

/-! bits of a number: how many, which -/
theorem and_mod2 {a b : Nat} (h : b % 2 = 0) : (a &&& b) % 2 = 0 := by
  have e : (a &&& b).testBit 0 = (a.testBit 0 && b.testBit 0) := Nat.testBit_and ..
  rw [Nat.testBit_zero, Nat.testBit_zero, Nat.testBit_zero] at e
  rw [decide_eq_false (show ¬ b % 2 = 1 by omega), Bool.and_false] at e
  have := of_decide_eq_false e
  omega
def pc : Nat → Nat
  | 0 => 0
  | n + 1 => (n + 1) % 2 + pc ((n + 1) / 2)
termination_by n => n
decreasing_by omega
theorem pc_eq (n : Nat) : pc n = n % 2 + pc (n / 2) := by
  cases n with
  | zero => rw [pc]
  | succ n => rw [pc]
theorem pc_and (n : Nat) (h : 0 < n) : pc (n &&& (n - 1)) + 1 = pc n := by
  induction n using Nat.strongRecOn with
  | ind n ih =>
    have hd : (n &&& (n - 1)) / 2 = n / 2 &&& (n - 1) / 2 := Nat.and_div_two
    by_cases ho : n % 2 = 1
    · rw [pc_eq (n &&& (n - 1)), pc_eq n, and_mod2 (show (n - 1) % 2 = 0 by omega), hd, show (n - 1) / 2 = n / 2 by omega, Nat.and_self, ho]
      omega
    · have hm : (n &&& (n - 1)) % 2 = 0 := by rw [Nat.and_comm]; exact and_mod2 (by omega)
      have := ih (n / 2) (by omega) (by omega)
      rw [pc_eq (n &&& (n - 1)), pc_eq n, hm, hd, show (n - 1) / 2 = n / 2 - 1 by omega]
      omega
def bpos (n i : Nat) : List Nat := (List.range i).filter n.testBit
theorem bpos_succ (n i : Nat) : bpos n (i + 1) = (if n % 2 = 1 then [0] else []) ++ (bpos (n / 2) i).map Nat.succ := by
  unfold bpos
  rw [List.range_succ_eq_map, List.filter_cons, List.filter_map, Nat.testBit_zero]
  have e : (fun t => n.testBit t) ∘ Nat.succ = (n / 2).testBit := by
    funext t
    show n.testBit (t + 1) = _
    rw [Nat.testBit_succ]
  rw [show (n.testBit ∘ Nat.succ) = (n / 2).testBit from e]
  by_cases h : n % 2 = 1
  · rw [if_pos h, if_pos (decide_eq_true h)]; rfl
  · rw [if_neg h, if_neg (by rw [decide_eq_false h]; decide)]; rfl
theorem bpos_len : ∀ (i n : Nat), n < 2 ^ i → (bpos n i).length = pc n
  | 0, n, h => by
    rw [Nat.pow_zero] at h
    rw [show n = 0 by omega, pc]; rfl
  | i + 1, n, h => by
    rw [Nat.pow_succ] at h
    rw [bpos_succ, List.length_append, List.length_map, bpos_len i (n / 2) (by omega), pc_eq n]
    by_cases h : n % 2 = 1
    · rw [if_pos h, h]; rfl
    · rw [if_neg h, show n % 2 = 0 by omega]; rfl
def psm (l : List Nat) : Nat := (l.map fun t => 2 ^ t).sum
theorem psm_succ : ∀ l : List Nat, psm (l.map Nat.succ) = 2 * psm l
  | [] => rfl
  | x :: l => by
    have h := psm_succ l
    unfold psm at h ⊢
    rw [List.map_cons, List.map_cons, List.map_cons, List.sum_cons, List.sum_cons, h, Nat.mul_add]
    show 2 ^ (x + 1) + _ = _
    rw [Nat.pow_succ, Nat.mul_comm]
theorem bpos_sum : ∀ (i n : Nat), n < 2 ^ i → psm (bpos n i) = n
  | 0, n, h => by
    rw [Nat.pow_zero] at h
    rw [show n = 0 by omega]; rfl
  | i + 1, n, h => by
    rw [Nat.pow_succ] at h
    have e : psm (bpos n (i + 1)) = (if n % 2 = 1 then 1 else 0) + psm ((bpos (n / 2) i).map Nat.succ) := by
      rw [bpos_succ]
      unfold psm
      rw [List.map_append, List.sum_append]
      congr 1
      by_cases h : n % 2 = 1
      · rw [if_pos h, if_pos h]; rfl
      · rw [if_neg h, if_neg h]; rfl
    rw [e, psm_succ, bpos_sum i (n / 2) (by omega)]
    by_cases h : n % 2 = 1
    · rw [if_pos h]; omega
    · rw [if_neg h]; omega
theorem bpos_step (n i : Nat) : bpos n (i + 1) = bpos n i ++ (if n / 2 ^ i % 2 = 1 then [i] else []) := by
  unfold bpos
  rw [List.range_succ, List.filter_append, List.filter_cons]
  congr 1
  have e : n.testBit i = decide (n / 2 ^ i % 2 = 1) := Nat.testBit_eq_decide_div_mod_eq
  rw [e]
  by_cases h : n / 2 ^ i % 2 = 1
  · rw [if_pos h, if_pos (decide_eq_true h)]; rfl
  · rw [if_neg h, if_neg (by rw [decide_eq_false h]; decide)]; rfl

/-! choosing numbers -/
def ch : Nat → Nat → Nat
  | _, 0 => 1
  | 0, _ + 1 => 0
  | n + 1, k + 1 => ch n k + ch n (k + 1)
theorem ch_zero (n : Nat) : ch n 0 = 1 := by cases n <;> rfl
theorem ch_succ (n k : Nat) : ch (n + 1) (k + 1) = ch n k + ch n (k + 1) := rfl
theorem ch_gt : ∀ (n k : Nat), n < k → ch n k = 0
  | 0, k + 1, _ => rfl
  | n + 1, k + 1, h => by rw [ch_succ, ch_gt n k (by omega), ch_gt n (k + 1) (by omega)]
theorem ch_self : ∀ n : Nat, ch n n = 1
  | 0 => rfl
  | n + 1 => by rw [ch_succ, ch_self n, ch_gt n (n + 1) (by omega)]
/-- (k + 1) C(n + 1, k + 1) = (n + 1) C(n, k) -/
theorem ch_mul : ∀ (n k : Nat), (k + 1) * ch (n + 1) (k + 1) = (n + 1) * ch n k
  | 0, 0 => rfl
  | 0, k + 1 => by rw [ch_succ, show ch 0 (k + 1) = 0 from rfl, show ch 0 (k + 1 + 1) = 0 from rfl]; omega
  | n + 1, 0 => by
    have h := ch_mul n 0
    rw [ch_zero] at h
    rw [ch_succ (n + 1) 0, ch_zero]
    omega
  | n + 1, k + 1 => by
    have h1 := ch_mul n k
    have h2 := ch_mul n (k + 1)
    have e1 := ch_succ (n + 1) (k + 1)
    have e2 := ch_succ n k
    rw [e1, Nat.mul_add, h2, show (k + 1 + 1) * ch (n + 1) (k + 1) = (k + 1) * ch (n + 1) (k + 1) + ch (n + 1) (k + 1) by rw [Nat.add_mul (k + 1) 1, Nat.one_mul], h1]
    rw [show (n + 1 + 1) * ch (n + 1) (k + 1) = (n + 1) * ch (n + 1) (k + 1) + ch (n + 1) (k + 1) by rw [Nat.add_mul (n + 1) 1, Nat.one_mul], e2, Nat.mul_add]
    omega
/-- (k + 1) C(n, k + 1) = (n - k) C(n, k) -/
theorem ch_next {n k : Nat} (h : k ≤ n) : (k + 1) * ch n (k + 1) = (n - k) * ch n k := by
  have h1 := ch_mul n k
  rw [ch_succ, Nat.mul_add] at h1
  have h2 : (n + 1) * ch n k = (k + 1) * ch n k + (n - k) * ch n k := by
    rw [← Nat.add_mul]
    congr 1
    omega
  omega
theorem ch_symm : ∀ (n k : Nat), k ≤ n → ch n k = ch n (n - k)
  | 0, 0, _ => rfl
  | n + 1, 0, _ => by rw [ch_zero, Nat.sub_zero, ch_self]
  | n + 1, k + 1, h => by
    by_cases hk : k = n
    · subst hk
      rw [ch_self, Nat.sub_self, ch_zero]
    · have e : n + 1 - (k + 1) = (n - (k + 1)) + 1 := by omega
      rw [e, ch_succ, ch_succ, ch_symm n k (by omega), ch_symm n (k + 1) (by omega), show n - k = n - (k + 1) + 1 by omega]
      omega
theorem ch_pos : ∀ (n k : Nat), k ≤ n → 0 < ch n k
  | _, 0, _ => by rw [ch_zero]; decide
  | n + 1, k + 1, h => by rw [ch_succ]; have := ch_pos n k (by omega); omega
/-- the product of j numbers from n down -/
def desc (n : Nat) : Nat → Nat
  | 0 => 1
  | j + 1 => desc n j * (n - j)
def fac : Nat → Nat
  | 0 => 1
  | j + 1 => fac j * (j + 1)
theorem fac_pos : ∀ j, 0 < fac j
  | 0 => by decide
  | j + 1 => Nat.mul_pos (fac_pos j) (by omega)
theorem fac_mono {i j : Nat} (h : i ≤ j) : fac i ≤ fac j := by
  induction h with
  | refl => exact Nat.le_refl _
  | step h ih => exact Nat.le_trans ih (Nat.le_mul_of_pos_right _ (by omega))
theorem desc_ch (n : Nat) : ∀ j, j ≤ n → desc n j = ch n j * fac j
  | 0, _ => by rw [ch_zero]; rfl
  | j + 1, h => by
    show desc n j * (n - j) = ch n (j + 1) * (fac j * (j + 1))
    rw [desc_ch n j (by omega)]
    have h1 := ch_next (n := n) (k := j) (by omega)
    rw [Nat.mul_right_comm, Nat.mul_comm (ch n j) (n - j), ← h1, Nat.mul_comm (j + 1) (ch n (j + 1)), Nat.mul_assoc, Nat.mul_comm (j + 1) (fac j)]
theorem ch_div (n j : Nat) (h : j ≤ n) : desc n j / fac j = ch n j := by
  rw [desc_ch n j h]
  exact Nat.mul_div_cancel _ (fac_pos j)
theorem fac_1000 : fac 1000 < 2 ^ 8600 := by decide +kernel
/-- rows added up -/
def prow : Nat → List Int
  | 0 => [1]
  | t + 1 => [1] ++ List.zipWith (· + ·) (prow t) (prow t).tail ++ [1]
theorem prow_len : ∀ t, (prow t).length = t + 1
  | 0 => rfl
  | t + 1 => by
    show ([1] ++ List.zipWith (· + ·) (prow t) (prow t).tail ++ [1]).length = _
    rw [List.length_append, List.length_append, List.length_zipWith, List.length_tail, prow_len t]
    simp [Nat.add_comm]
theorem prow_get : ∀ (t k : Nat), k ≤ t → (prow t)[k]? = some (ch t k : Int)
  | 0, 0, _ => rfl
  | t + 1, k, h => by
    show ([1] ++ List.zipWith (· + ·) (prow t) (prow t).tail ++ [1])[k]? = _
    have hl : (List.zipWith (· + ·) (prow t) (prow t).tail).length = t := by
      rw [List.length_zipWith, List.length_tail, prow_len]; omega
    cases k with
    | zero => rw [ch_zero]; rfl
    | succ k =>
      rw [List.append_assoc, List.cons_append, List.nil_append, List.getElem?_cons_succ]
      by_cases hk : k = t
      · rw [hk]
        rw [List.getElem?_append_right (by omega), hl, Nat.sub_self, ch_self]
        rfl
      · rw [List.getElem?_append_left (by omega), List.getElem?_zipWith, List.getElem?_tail, prow_get t k (by omega), prow_get t (k + 1) (by omega), ch_succ]
        rfl
theorem prow_zip {t k : Nat} (h : k < t) : (List.zipWith (· + ·) (prow t) (prow t).tail)[k]? = some (ch t k + ch t (k + 1) : Int) := by
  rw [List.getElem?_zipWith, List.getElem?_tail, prow_get t k (by omega), prow_get t (k + 1) (by omega)]

/-! figures of a power -/
/-- (u + 1) ^ n is the sum of the choosing numbers as figures in base u -/
def psum (u n : Nat) : Nat → Nat
  | 0 => 0
  | k + 1 => psum u n k + ch n k * u ^ k
theorem psum_succ (u n : Nat) : ∀ k, psum u (n + 1) (k + 1) = psum u n (k + 1) + u * psum u n k
  | 0 => by
    show 0 + ch (n + 1) 0 * u ^ 0 = (0 + ch n 0 * u ^ 0) + u * 0
    rw [ch_zero, ch_zero, Nat.mul_zero, Nat.add_zero]
  | k + 1 => by
    have ih := psum_succ u n k
    show psum u (n + 1) (k + 1) + ch (n + 1) (k + 1) * u ^ (k + 1) = (psum u n (k + 1) + ch n (k + 1) * u ^ (k + 1)) + u * (psum u n k + ch n k * u ^ k)
    rw [ih, ch_succ, Nat.add_mul, Nat.mul_add, Nat.pow_succ, ← Nat.mul_assoc u (ch n k), Nat.mul_comm u (ch n k), Nat.mul_assoc (ch n k) u, Nat.mul_comm u (u ^ k)]
    omega
theorem psum_top (u n : Nat) : ∀ k, n < k → psum u n k = psum u n (n + 1)
  | k + 1, h => by
    by_cases e : k = n
    · rw [e]
    · show psum u n k + ch n k * u ^ k = _
      rw [ch_gt n k (by omega), Nat.zero_mul, Nat.add_zero, psum_top u n k (by omega)]
theorem psum_pow (u : Nat) : ∀ n, psum u n (n + 1) = (u + 1) ^ n
  | 0 => by show 0 + ch 0 0 * u ^ 0 = 1; rw [ch_zero]; rfl
  | n + 1 => by
    rw [psum_succ, psum_top u n (n + 1 + 1) (by omega), psum_pow u n, Nat.pow_succ, Nat.mul_add, Nat.mul_one, Nat.mul_comm u]
    omega
theorem ch_le : ∀ n k : Nat, ch n k ≤ 2 ^ n
  | _, 0 => by rw [ch_zero]; exact Nat.two_pow_pos _
  | 0, k + 1 => by show 0 ≤ _; exact Nat.zero_le _
  | n + 1, k + 1 => by
    rw [ch_succ, Nat.pow_succ]
    have h1 := ch_le n k
    have h2 := ch_le n (k + 1)
    omega
theorem psum_lt {u n : Nat} (h : 2 ^ n < u) : ∀ k, psum u n k < u ^ k
  | 0 => by show 0 < 1; decide
  | k + 1 => by
    show psum u n k + ch n k * u ^ k < u ^ (k + 1)
    have h1 := psum_lt h k
    have h2 := ch_le n k
    rw [Nat.pow_succ]
    have h3 : (ch n k + 1) * u ^ k ≤ u * u ^ k := Nat.mul_le_mul_right _ (by omega)
    rw [Nat.add_mul, Nat.one_mul] at h3
    rw [Nat.mul_comm (u ^ k) u]
    omega
theorem psum_split {u n : Nat} (h0 : 0 < u) : ∀ m k, k ≤ m → ∃ r, psum u n m = psum u n k + u ^ k * r ∧ (k < m → r % u = ch n k % u)
  | m, k, hk => by
    induction m with
    | zero =>
      have : k = 0 := by omega
      subst this
      exact ⟨0, by rw [Nat.mul_zero]; rfl, fun h => by omega⟩
    | succ m ih =>
      by_cases e : k = m + 1
      · subst e
        exact ⟨0, by rw [Nat.mul_zero]; rfl, fun h => by omega⟩
      · obtain ⟨r, h1, h2⟩ := ih (by omega)
        by_cases e2 : k = m
        · subst e2
          refine ⟨r + ch n k, ?_, fun _ => ?_⟩
          · show psum u n k + ch n k * u ^ k = _
            have h3 : u ^ k * r = 0 := by omega
            rw [Nat.mul_add, h3, Nat.zero_add, Nat.mul_comm]
          · have h3 : u ^ k * r = 0 := by omega
            have h4 : r = 0 := by
              rcases Nat.mul_eq_zero.mp h3 with z | z
              · exact absurd z (Nat.ne_of_gt (Nat.pow_pos h0))
              · exact z
            rw [h4, Nat.zero_add]
        · refine ⟨r + u ^ (m - k) * ch n m, ?_, fun _ => ?_⟩
          · show psum u n m + ch n m * u ^ m = _
            rw [h1, Nat.mul_add, ← Nat.mul_assoc, ← Nat.pow_add, show k + (m - k) = m by omega, Nat.mul_comm (ch n m)]
            omega
          · rw [show m - k = (m - k - 1) + 1 by omega, Nat.pow_succ, Nat.mul_comm (u ^ (m - k - 1)) u, Nat.mul_assoc, Nat.add_mul_mod_self_left]
            exact h2 (by omega)
/-- figure k of (u + 1) ^ n in base u is the choosing number -/
theorem fig_pow {u n : Nat} (h : 2 ^ n < u) (k : Nat) : (u + 1) ^ n / u ^ k % u = ch n k := by
  have hl := ch_le n k
  have h0 : 0 < u := by omega
  have hs := psum_lt h k
  rw [← psum_pow u n, ← psum_top u n (n + 1 + k) (by omega)]
  obtain ⟨r, h1, h2⟩ := psum_split h0 (n := n) (n + 1 + k) k (by omega)
  rw [h1, Nat.add_mul_div_left _ _ (Nat.pow_pos h0), Nat.div_eq_of_lt hs, Nat.zero_add, h2 (by omega)]
  exact Nat.mod_eq_of_lt (by omega)

theorem psm_split (p : Nat → Bool) : ∀ l : List Nat, psm (l.filter p) + psm (l.filter fun t => !p t) = psm l
  | [] => rfl
  | x :: l => by
    have h := psm_split p l
    have c : ∀ (a : Nat) (k : List Nat), psm (a :: k) = 2 ^ a + psm k := fun a k => by
      unfold psm
      rw [List.map_cons, List.sum_cons]
    rw [List.filter_cons, List.filter_cons, c]
    cases p x
    · rw [if_neg (by decide : ¬ (false = true)), if_pos (by decide : (!false) = true), c]; omega
    · rw [if_pos (by decide : true = true), if_neg (by decide : ¬ ((!true) = true)), c]; omega
def lone (n m i : Nat) : List Nat := (bpos n i).filter fun t => !m.testBit t
theorem lone_xor (n m i : Nat) : lone n m i = bpos (n ^^^ (n &&& m)) i := by
  unfold lone bpos
  rw [List.filter_filter]
  congr 1
  funext t
  rw [Nat.testBit_xor, Nat.testBit_and]
  cases n.testBit t <;> cases m.testBit t <;> rfl
theorem w20 {n m i : Nat} (h : n < 2 ^ i) : psm (lone n m i) = n - (n &&& m) ∧ (lone n m i).length = pc (n - (n &&& m)) ∧ (n &&& m = n ↔ lone n m i = []) ∧ (n - (n &&& m)) &&& n = n - (n &&& m) := by
  have ha : n &&& m < 2 ^ i := Nat.lt_of_le_of_lt Nat.and_le_left h
  have hx : n ^^^ (n &&& m) < 2 ^ i := Nat.xor_lt_two_pow h ha
  have hr : psm (lone n m i) = n ^^^ (n &&& m) := by rw [lone_xor, bpos_sum i _ hx]
  have hs : psm ((bpos n i).filter m.testBit) = n &&& m := by
    have e : (bpos n i).filter m.testBit = bpos (n &&& m) i := by
      unfold bpos
      rw [List.filter_filter]
      congr 1
      funext t
      rw [Nat.testBit_and, Bool.and_comm]
    rw [e, bpos_sum i _ ha]
  have hp := psm_split m.testBit (bpos n i)
  rw [bpos_sum i n h, hs] at hp
  have hp2 : (n &&& m) + psm (lone n m i) = n := hp
  have hxr : n ^^^ (n &&& m) = n - (n &&& m) := by omega
  have hl : (lone n m i).length = pc (n - (n &&& m)) := by rw [← hxr, lone_xor, bpos_len i _ hx]
  refine ⟨by omega, hl, ⟨fun e => ?_, fun e => ?_⟩, ?_⟩
  · rw [e, Nat.sub_self, pc] at hl
    exact List.length_eq_zero_iff.mp hl
  · rw [e] at hp2
    have : psm [] = 0 := rfl
    omega
  · rw [← hxr]
    refine Nat.eq_of_testBit_eq fun t => ?_
    rw [Nat.testBit_and, Nat.testBit_xor, Nat.testBit_and]
    cases n.testBit t <;> cases m.testBit t <;> rfl
theorem valV_has {kvs : List (Key × V)} {k : Key} : (valV kvs k).isSome = true ↔ ∃ p ∈ kvs, p.1 = k := by
  unfold valV
  rw [Option.isSome_map, List.find?_isSome]
  constructor
  · rintro ⟨p, h, e⟩; exact ⟨p, h, of_decide_eq_true e⟩
  · rintro ⟨p, h, e⟩; exact ⟨p, h, decide_eq_true e⟩
theorem putK_has {kvs : List (Key × V)} {k0 k : Key} {v : V} : (∃ p ∈ putK kvs k0 v, p.1 = k) ↔ (k0 = k ∨ ∃ p ∈ kvs, p.1 = k) := by
  unfold putK
  split
  · rename_i h
    obtain ⟨q, hq, eq⟩ := List.any_eq_true.mp h
    have eq := of_decide_eq_true eq
    constructor
    · rintro ⟨p, hp, rfl⟩
      obtain ⟨r, hr, rfl⟩ := List.mem_map.mp hp
      refine .inr ⟨r, hr, ?_⟩
      split <;> rfl
    · rintro (rfl | ⟨p, hp, rfl⟩)
      · exact ⟨_, List.mem_map.mpr ⟨q, hq, rfl⟩, by rw [if_pos eq]; exact eq⟩
      · exact ⟨_, List.mem_map.mpr ⟨p, hp, rfl⟩, by split <;> rfl⟩
  · constructor
    · rintro ⟨p, hp, rfl⟩
      rcases List.mem_append.mp hp with hp | hp
      · exact .inr ⟨p, hp, rfl⟩
      · rw [List.mem_singleton.mp hp]; exact .inl rfl
    · rintro (rfl | ⟨p, hp, rfl⟩)
      · exact ⟨_, List.mem_append.mpr (.inr (List.mem_singleton.mpr rfl)), rfl⟩
      · exact ⟨p, List.mem_append.mpr (.inl hp), rfl⟩
theorem merge_has {k : Key} : ∀ (more kvs : List (Key × V)), (∃ p ∈ mergeK kvs more, p.1 = k) ↔ ((∃ p ∈ kvs, p.1 = k) ∨ ∃ p ∈ more, p.1 = k)
  | [], kvs => by
    show (∃ p ∈ kvs, p.1 = k) ↔ _
    simp
  | q :: more, kvs => by
    have h := merge_has (k := k) more (putK kvs q.1 q.2)
    show (∃ p ∈ mergeK (putK kvs q.1 q.2) more, p.1 = k) ↔ _
    rw [h, putK_has]
    simp only [List.mem_cons, exists_eq_or_imp]
    constructor
    · rintro ((e | e) | e)
      · exact .inr (.inl e)
      · exact .inl e
      · exact .inr (.inr e)
    · rintro (e | e | e)
      · exact .inl (.inr e)
      · exact .inl (.inl e)
      · exact .inr e
def bkv (l : List Nat) : List (Key × V) := l.map fun t => (Sum.inl ((t : Nat) : Int), V.bl true)
theorem bkv_has {m j t : Nat} (h : m < 2 ^ j) : (valV (mergeK [] (bkv (bpos m j))) (Sum.inl ((t : Nat) : Int))).isSome = m.testBit t := by
  have e : (valV (mergeK [] (bkv (bpos m j))) (Sum.inl ((t : Nat) : Int))).isSome = true ↔ m.testBit t = true := by
    rw [valV_has, merge_has]
    constructor
    · rintro (⟨p, hp, _⟩ | ⟨p, hp, e⟩)
      · cases hp
      · obtain ⟨s, hs, rfl⟩ := List.mem_map.mp hp
        have e : s = t := by have := Sum.inl.inj e; omega
        rw [← e]
        exact (List.mem_filter.mp hs).2
    · intro ht
      refine .inr ⟨_, List.mem_map.mpr ⟨t, List.mem_filter.mpr ⟨?_, ht⟩, rfl⟩, rfl⟩
      rw [List.mem_range]
      rcases Nat.lt_or_ge t j with q | q
      · exact q
      · have := Nat.testBit_lt_two_pow (Nat.lt_of_lt_of_le h (Nat.pow_le_pow_right (by decide) q))
        rw [this] at ht
        cases ht
  cases h1 : (valV (mergeK [] (bkv (bpos m j))) (Sum.inl ((t : Nat) : Int))).isSome <;> cases h2 : m.testBit t
  · rfl
  · rw [h1, h2] at e; have := e.mpr rfl; cases this
  · rw [h1, h2] at e; have := e.mp rfl; cases this
  · rfl
/-! a dict of pairs -/
def gDict (K : PySem.W.Frag) : List V → Hp → VK → Prop := (fun xs H Q => ∃ (a : Addr) (ps : List Addr) (kvs : List (Key × V)), xs = [.ref a] ∧ SqL K H a (ps.map V.ref) ∧ Paired (fun p kv => SqT K H p [kV kv.1, kv.2]) ps kvs ∧ ∀ p, H p = none → Q (.ref p) (upd H p (.dK (mergeK [] kvs))))
theorem call_gDict {X : Cx} {K : PySem.W.Frag} (hK : X.K = K) (hcalm : X.calm = true) : CallR X (.type "dict") (gDict K) := by subst hK; exact call_dictP hcalm
theorem w_gDict {K : PySem.W.Frag} {H : Hp} {Q : VK} {a : Addr} {ps : List Addr} {kvs : List (Key × V)} (h : SqL K H a (ps.map V.ref)) (hp : Paired (fun p kv => SqT K H p [kV kv.1, kv.2]) ps kvs) (k : ∀ p H', H p = none → Sm H H' → H' p = some (.dK (mergeK [] kvs)) → Q (.ref p) H') : gDict K [.ref a] H Q := ⟨a, ps, kvs, rfl, h, hp, fun p hn => k p _ hn (sm_new hn) upd_same⟩
def DNE (y x : V) (Q : VK) (H2 : Hp) : Prop := ∃ a o, x = .ref a ∧ DGet H2 a y o ∧ Q (.bl (!o.isSome)) H2
theorem w_dni {ty td : TE} {σ : L2.St} {H : Hp} {Q : VK} (k : ty σ H fun y H1 => td σ H1 fun x H2 => DNE y x Q H2) : tDNotIn ty td σ H Q := k
theorem w_dne {H : Hp} {Q : VK} {a : Addr} {i : Int} {kvs : List (Key × V)} (h : H a = some (.dK kvs)) (k : Q (.bl (!(valV kvs (.inl i)).isSome)) H) : DNE (.int i) (.ref a) Q H := ⟨a, _, rfl, .inl ⟨kvs, .inl i, .inl h, rfl, rfl⟩, k⟩
theorem u_one {n : Nat} (h : n + 64 < cLine) : n + 1 < cLine := by omega
theorem paired_imp {α β : Type} {F G : α → β → Prop} (h : ∀ p q, F p q → G p q) : ∀ {l : List α} {k : List β}, Paired F l k → Paired G l k
  | _, _, .nil => .nil
  | _, _, .cons a b => .cons (h _ _ a) (paired_imp h b)
theorem nat_at {l : List Nat} {i : Nat} {x : V} (h : (l.map fun t => V.int ((t : Nat) : Int))[i]? = some x) : ∃ t : Nat, l[i]? = some t ∧ x = V.int (t : Int) := by
  rw [List.getElem?_map] at h
  cases e : l[i]? with
  | none => rw [e] at h; cases h
  | some t => rw [e] at h; cases h; exact ⟨t, rfl, rfl⟩
theorem bkv_take {l : List Nat} {i t : Nat} (h : l[i]? = some t) : bkv (l.take (i + 1)) = bkv (l.take i) ++ [(Sum.inl ((t : Nat) : Int), V.bl true)] := by
  unfold bkv
  rw [List.take_succ, h, List.map_append]
  rfl
theorem w_eqNil {K : PySem.W.Frag} {H : Hp} {Q : VK} {a b : Addr} {l : List Nat} (h1 : SqL K H a (l.map fun t => V.int ((t : Nat) : Int))) (h2 : SqL K H b []) (k : Q (.bl (decide (l = []))) H) : gEq K (.ref a) (.ref b) H Q := by
  have e1 : (l.map fun t => V.int ((t : Nat) : Int)) = (l.map fun t : Nat => ((t : Nat) : Int)).map V.int := by rw [List.map_map]; rfl
  rw [e1] at h1
  refine .inr ⟨.list ((l.map fun t : Nat => ((t : Nat) : Int)).map .int), .list (([] : List Int).map .int), .lst h1 (dp_ints _), .lst h2 .nil, PySem.W.ke_shaped_ints _, PySem.W.ke_shaped_ints _, ?_⟩
  have e : PyData.eqv (.list ((l.map fun t : Nat => ((t : Nat) : Int)).map .int)) (.list (([] : List Int).map .int)) = decide (l = []) := by
    rw [PyData.eqv, PySem.W.ked_eqvAll]
    cases l with
    | nil => rfl
    | cons x l => rfl
  rw [e]
  exact k
theorem flt_take {p : Nat → Bool} {l : List Nat} {i t : Nat} (h : l[i]? = some t) : (l.take (i + 1)).filter p = (l.take i).filter p ++ (if p t = true then [t] else []) := by
  rw [List.take_succ, h, List.filter_append]
  congr 1
  show List.filter p [t] = _
  rw [List.filter_cons]
  cases p t <;> rfl
theorem psm_int : ∀ L : List Nat, (L.map fun t : Nat => ((2 ^ t : Nat) : Int)).sum = ((psm L : Nat) : Int)
  | [] => rfl
  | x :: L => by
    have h := psm_int L
    unfold psm at h ⊢
    rw [List.map_cons, List.map_cons, List.sum_cons, List.sum_cons, h, Int.natCast_add]
local macro_rules | `(tactic| tm_at "rs") => `(tactic| first | with_reducible refine w_dni ?_ | ((with_reducible refine' w_dne ?h ?k); (case h => tm_at "rlk")) | ((with_reducible refine' w_eqNil ?h ?i ?k); (case h => tm_at "rsq"); (case i => tm_at "rsq")) | fail "no")

/-! a dict of names and numbers -/
structure DicOk (kvs : List (Key × V)) (ys : List Str) (M : Nat) : Prop where
  nd : (kvs.map (·.1)).Nodup
  ok : ∀ p ∈ kvs, ∃ (s : Str) (n : Nat), p = (Sum.inr s, V.int (n : Nat)) ∧ n < M ∧ Low s
  has : ∀ y ∈ ys, ∃ p ∈ kvs, p.1 = Sum.inr y
def gOf (kvs : List (Key × V)) (s : Str) : Nat := match valV kvs (.inr s) with
  | some (.int i) => i.toNat
  | _ => 0
theorem valV_some {kvs : List (Key × V)} {k : Key} {v : V} (h : valV kvs k = some v) : (k, v) ∈ kvs := by
  unfold valV at h
  cases e : kvs.find? (fun kv => decide (kv.1 = k)) with
  | none => rw [e] at h; cases h
  | some p =>
    rw [e] at h
    cases h
    have h1 := List.find?_some e
    have h2 := List.mem_of_find?_eq_some e
    have h1 := of_decide_eq_true h1
    obtain ⟨a, b⟩ := p
    have h1 : a = k := h1
    subst h1
    exact h2
theorem DicOk.val {kvs : List (Key × V)} {ys : List Str} {M : Nat} (h : DicOk kvs ys M) {s : Str} (e : (valV kvs (.inr s)).isSome = true) : valV kvs (.inr s) = some (.int (gOf kvs s : Nat)) ∧ gOf kvs s < M := by
  obtain ⟨v, hv⟩ := Option.isSome_iff_exists.mp e
  obtain ⟨s', n, e1, hn, _⟩ := h.ok _ (valV_some hv)
  cases e1
  have hg : gOf kvs s = n := by
    unfold gOf
    rw [hv]
    rfl
  rw [hg]
  exact ⟨hv, hn⟩
theorem DicOk.at {kvs : List (Key × V)} {ys : List Str} {M : Nat} (h : DicOk kvs ys M) {y : Str} (hy : y ∈ ys) : valV kvs (.inr y) = some (.int (gOf kvs y : Nat)) ∧ gOf kvs y < M := h.val (valV_has.mpr (h.has y hy))
theorem DicOk.nil {M : Nat} : DicOk [] [] M := ⟨List.nodup_nil, (by intro p hp; cases hp), (by intro y hy; cases hy)⟩
theorem DicOk.up {kvs : List (Key × V)} {ys : List Str} {M M' : Nat} (h : DicOk kvs ys M) (l : M ≤ M') : DicOk kvs ys M' := ⟨h.nd, fun p hp => by
  obtain ⟨s, n, e, hn, hs⟩ := h.ok p hp
  exact ⟨s, n, e, by omega, hs⟩, h.has⟩
theorem DicOk.sub {kvs : List (Key × V)} {ys zs : List Str} {M : Nat} (h : DicOk kvs ys M) (l : ∀ z ∈ zs, z ∈ ys) : DicOk kvs zs M := ⟨h.nd, h.ok, fun z hz => h.has z (l z hz)⟩
theorem putK_len {kvs : List (Key × V)} {k : Key} {v : V} : (putK kvs k v).length ≤ kvs.length + 1 := by
  unfold putK
  split
  · rw [List.length_map]; omega
  · rw [List.length_append]; exact Nat.le_refl _
theorem DicOk.put {kvs : List (Key × V)} {ys : List Str} {M : Nat} (h : DicOk kvs ys M) (s : Str) (hs : Low s) {n : Nat} (hn : n < M) : DicOk (putK kvs (.inr s) (.int (n : Nat))) (ys ++ [s]) M := by
  refine ⟨?_, ?_, fun y hy => ?_⟩
  · unfold putK
    split
    · rw [List.map_map]
      have e : ((fun x : Key × V => x.1) ∘ fun kv : Key × V => if kv.1 = Sum.inr s then (kv.1, V.int (n : Nat)) else kv) = fun x => x.1 := by
        funext x
        show (if x.1 = Sum.inr s then (x.1, V.int (n : Nat)) else x).1 = x.1
        split <;> rfl
      first | (rw [e]; exact h.nd) | (refine cast ?_ h.nd; congr 1; refine List.map_congr_left fun x _ => ?_; show _ = (if _ then _ else _).1; split <;> rfl)
    · rename_i hno
      rw [List.map_append]
      refine List.nodup_append.mpr ⟨h.nd, by simp, fun x hx y hy => ?_⟩
      have hy : y = Sum.inr s := List.mem_singleton.mp hy
      subst hy
      rintro rfl
      obtain ⟨p, hp, e⟩ := List.mem_map.mp hx
      exact hno (List.any_eq_true.mpr ⟨p, hp, decide_eq_true e⟩)
  · intro p hp
    unfold putK at hp
    split at hp
    · obtain ⟨r, hr, rfl⟩ := List.mem_map.mp hp
      split
      · rename_i e
        exact ⟨s, n, by rw [e], hn, hs⟩
      · exact h.ok r hr
    · rcases List.mem_append.mp hp with hp | hp
      · exact h.ok p hp
      · rw [List.mem_singleton.mp hp]
        exact ⟨s, n, rfl, hn, hs⟩
  · rw [putK_has]
    rcases List.mem_append.mp hy with hy | hy
    · exact .inr (h.has y hy)
    · rw [List.mem_singleton.mp hy]
      exact .inl rfl
/-! a dict copied, two dicts compared -/
def gDictD : List V → Hp → VK → Prop := fun xs H Q => ∃ (a : Addr) (kvs : List (Key × V)), xs = [.ref a] ∧ Rd H a (.dK kvs) ∧ ∀ p, H p = none → Q (.ref p) (upd H p (.dK kvs))
theorem call_gDictD {X : Cx} : CallR X (.type "dict") gDictD := call_dictD
theorem w_dictD {H : Hp} {Q : VK} {a : Addr} {kvs : List (Key × V)} (h : H a = some (.dK kvs)) (k : ∀ p H', H p = none → Sm H H' → H' p = some (.dK kvs) → Q (.ref p) H') : gDictD [.ref a] H Q := ⟨a, kvs, rfl, .inl h, fun p hp => k p _ hp (sm_new hp) upd_same⟩
theorem op_gNeD {X : Cx} (hu : X.A.units + 64 < cLine) : OpR X (compareOp .NotEq) rNeDA := op_ne_dictA (by omega)
theorem valV_nd : ∀ {kvs : List (Key × V)} {p : Key × V}, (kvs.map (·.1)).Nodup → p ∈ kvs → valV kvs p.1 = some p.2
  | q :: r, p, hn, hp => by
    rw [List.map_cons, List.nodup_cons] at hn
    rcases List.mem_cons.mp hp with rfl | hp
    · exact valV_pos rfl
    · rw [valV_neg (fun e => hn.1 (by rw [e]; exact List.mem_map.mpr ⟨p, hp, rfl⟩))]
      exact valV_nd hn.2 hp
theorem w_neD {H : Hp} {Q : VK} {a b : Addr} {kvs : List (Key × V)} {ys : List Str} {M : Nat} (ha : H a = some (.dK kvs)) (hb : H b = some (.dK kvs)) (d : DicOk kvs ys M) (k : Q (.bl false) H) : rNeDA (.ref a) (.ref b) H Q :=
  ⟨a, b, kvs, kvs, rfl, rfl, ha, hb, rfl, fun p hp => by
    obtain ⟨s, n, rfl, _, _⟩ := d.ok p hp
    exact ⟨valV_nd d.nd hp, rfl⟩, k⟩
/-! a dict's items as a list, two such lists compared -/
def valD : V → PyData
  | .int i => .int i
  | _ => .none
def keyD : Key → PyData
  | .inl i => .int i
  | .inr s => .str s
def itD (kvs : List (Key × V)) : List PyData := kvs.map fun p => .tuple [keyD p.1, valD p.2]
theorem itD_ok : ∀ {kvs : List (Key × V)}, (∀ p ∈ kvs, ∃ (s : Str) (n : Nat), p = (Sum.inr s, V.int (n : Nat)) ∧ Low s) → PyData.canLayAll0 (itD kvs) = true ∧ PyData.depthAll (itD kvs) ≤ 1
  | [], _ => ⟨rfl, by decide⟩
  | p :: r, h => by
    obtain ⟨h1, h2⟩ := itD_ok (kvs := r) (fun q hq => h q (List.mem_cons_of_mem _ hq))
    obtain ⟨s, n, rfl, hs⟩ := h p List.mem_cons_self
    have ok : PyData.strOk s = true := by
      unfold PyData.strOk
      rw [← Array.all_toList, List.all_eq_true]
      intro c hc
      have := hs c hc
      exact decide_eq_true (by omega)
    refine ⟨?_, ?_⟩
    · show PyData.canLayAll0 (PyData.tuple [PyData.str s, PyData.int n] :: itD r) = true
      simp [PyData.canLayAll0, PyData.canLay0, ok, h1]
    · show PyData.depthAll (PyData.tuple [PyData.str s, PyData.int n] :: itD r) ≤ 1
      simp only [PyData.depthAll, PyData.depth]
      omega
theorem itD_dp {K : PySem.W.Frag} {H : Hp} : ∀ {ts : List Addr} {kvs : List (Key × V)}, (∀ p ∈ kvs, ∃ (s : Str) (n : Nat), p = (Sum.inr s, V.int (n : Nat)) ∧ Low s) → Paired (fun (t : Addr) (q : Key × V) => H t = some (.tup [kV q.1, q.2])) ts kvs → DpAll K H (ts.map V.ref) (itD kvs)
  | _, [], _, .nil => .nil
  | t :: ts, p :: r, h, .cons a b => by
    have ih := itD_dp (K := K) (fun q hq => h q (List.mem_cons_of_mem _ hq)) b
    obtain ⟨s, n, rfl, _⟩ := h p List.mem_cons_self
    exact .cons (.tup (st_of a) (.cons (.str s) (.cons (.int n) .nil))) ih
theorem w_neSame {K : PySem.W.Frag} {H : Hp} {Q : VK} {x y : V} {d : PyData} (h1 : Dp K H x d) (h2 : Dp K H y d) (s : SeqAt.shaped d = true) (k : Q (.bl false) H) : gNe K x y H Q := by
  refine .inr ⟨d, d, h1, h2, s, s, ?_⟩
  rw [PySem.SeqAt.eqv_refl d (SeqAt.canLay_of_shaped s)]
  exact k
theorem itD_shaped {kvs : List (Key × V)} (h : ∀ p ∈ kvs, ∃ (s : Str) (n : Nat), p = (Sum.inr s, V.int (n : Nat)) ∧ Low s) : SeqAt.shaped (.list (itD kvs)) = true := by
  obtain ⟨h1, h2⟩ := itD_ok h
  unfold SeqAt.shaped
  rw [Bool.and_eq_true, decide_eq_true_eq]
  refine ⟨by simp [PyData.canLay0, h1], ?_⟩
  simp only [PyData.depth]
  omega
theorem DicOk.low {kvs : List (Key × V)} {ys : List Str} {M : Nat} (h : DicOk kvs ys M) : ∀ p ∈ kvs, ∃ (s : Str) (n : Nat), p = (Sum.inr s, V.int (n : Nat)) ∧ Low s := fun p hp => by
  obtain ⟨s, n, e, _, hs⟩ := h.ok p hp
  exact ⟨s, n, e, hs⟩
def ItmE (Q : VK) (x : V) (H : Hp) : Prop := LiI.rItemsL x H Q
theorem w_itm {te : TE} {σ : L2.St} {H : Hp} {Q : VK} (k : te σ H fun x H1 => ItmE Q x H1) : LiI.tListItems te σ H Q := k
theorem w_itmE {H : Hp} {Q : VK} {d : Addr} {kvs : List (Key × V)} (h : H d = some (.dK kvs)) (k : ∀ (p : Addr) (ts : List Addr) (H' : Hp), H p = none → Sm H H' → H' p = some (.lst (ts.map V.ref)) → Paired (fun (t : Addr) (q : Key × V) => H' t = some (.tup [kV q.1, q.2])) ts kvs → Q (.ref p) H') : ItmE Q (.ref d) H :=
  ⟨d, kvs, rfl, h, fun H' p ts sm np _ _ g pr => k p ts H' np sm g pr⟩
local macro_rules | `(tactic| tm_at "rs") => `(tactic| first | with_reducible refine w_itm ?_ | ((with_reducible refine' w_itmE ?h (fun _ _ _ _ _ _ _ => ?k)); (case h => tm_at "rlk")) | ((with_reducible refine' w_dictD ?h (fun _ _ _ _ _ => ?k)); (case h => tm_at "rlk")) | fail "no")

/-! repr of lists and tuples, where nothing is being shown -/
def gRep1 (K : PySem.W.Frag) : List V → Hp → VK → Prop := fun xs H Q => ∃ a d, xs = [.ref a] ∧ Dp K H (.ref a) d ∧ d.showable = true ∧ d.hasDict = false ∧ d.depth ≤ 3000 ∧ d.shown.length ≤ sizeLine ∧ Q (.str d.shown) H
def gRep (K : PySem.W.Frag) : List V → Hp → VK → Prop := fun xs H Q => gRep1 K xs H Q ∨ (xs = [.non] ∧ Q (.str "None") H)
theorem call_gRep1 {X : Cx} {K : PySem.W.Frag} (hK : X.K = K) (hg : X.A.guards = some []) (hu : X.A.units + 5000 < cLine) : CallR X (.builtin "repr") (gRep1 K) := by
  subst hK
  intro pins s σ H xs us Q I rs h
  obtain ⟨a, d, rfl, hd, hs, nd, hp, hz, q⟩ := h
  obtain ⟨u, rfl, ru⟩ := vals1 rs
  obtain rfl : u = Value.ref a := ru
  obtain ⟨as, r⟩ := Dp.reads I d _ _ hd rfl
  exact repr_of_reads' r hs (PyData.noDict_hsm nd) hg (by omega) (fun _ _ e => e) (fun h' u tk hk => ⟨.str _, H, Inv.kept (t' := tk) I hk, ⟨_, rfl⟩, q⟩) hz
theorem call_gRep {X : Cx} {K : PySem.W.Frag} (hK : X.K = K) (hg : X.A.guards = some []) (hu : X.A.units + 5000 < cLine) : CallR X (.builtin "repr") (gRep K) := by
  refine cr_or (call_gRep1 hK hg hu) ?_
  intro pins s σ H xs us Q I rs h
  obtain ⟨rfl, q⟩ := h
  obtain ⟨u, rfl, ru⟩ := vals1 rs
  obtain rfl : u = Value.none := ru
  exact PySem.P.repr_of_none ⟨.str _, H, I.tok _, ⟨_, rfl⟩, q⟩
theorem w_repN {K : PySem.W.Frag} {H : Hp} {Q : VK} (k : Q (.str "None") H) : gRep K [.non] H Q := .inr ⟨rfl, k⟩
theorem rp_ints : ∀ ns : List Int, (∀ n ∈ ns, n.natAbs < 10 ^ 15) → PyData.showableAll (ns.map .int) = true ∧ PyData.hasDictAll (ns.map .int) = false ∧ PyData.leavesShortAll 16 (ns.map .int) = true ∧ PyData.bulkAll (ns.map .int) = ns.length
  | [], _ => ⟨rfl, rfl, rfl, rfl⟩
  | n :: ns, h => by
    obtain ⟨h1, h2, h3, h4⟩ := rp_ints ns (fun m hm => h m (List.mem_cons_of_mem _ hm))
    have hn := h n List.mem_cons_self
    have e := int_text_length_le10 (k := 15) (by decide) hn
    have hs : (PyData.shown (.int n)).length ≤ 16 := by
      show (Str.ofString (toString n)).length ≤ 16
      rw [PySem.ofString_length]
      exact e
    have hl : n.natAbs.log2 < 1920 := PySem.Spec.log2_small (Nat.lt_of_lt_of_le hn (Nat.le_trans (show 10 ^ 15 ≤ 2 ^ 60 by decide) (Nat.pow_le_pow_right (by decide) (by decide))))
    refine ⟨?_, ?_, ?_, ?_⟩
    · simp [PyData.showableAll, PyData.showable, h1, hl]
    · simp [PyData.hasDictAll, PyData.hasDict, h2]
    · simp [PyData.leavesShortAll, PyData.leavesShort, h3, hs]
    · simp [PyData.bulkAll, PyData.bulk, h4]
      omega
theorem w_repInts {K : PySem.W.Frag} {H : Hp} {Q : VK} {a : Addr} {ns : List Int} (h : SqL K H a (ns.map V.int)) (b : ∀ n ∈ ns, n.natAbs < 10 ^ 15) (l : ns.length ≤ 1000) (k : Q (.str (PyData.shown (.list (ns.map .int)))) H) : gRep K [.ref a] H Q := by
  obtain ⟨h1, h2, h3, h4⟩ := rp_ints ns b
  have hb := PyData.shown_le_bulk 16 (by decide) (.list (ns.map .int)) (by simp [PyData.leavesShort, h3])
  refine .inl ⟨a, .list (ns.map .int), rfl, .lst h (dp_ints ns), by simp [PyData.showable, h1], by simp [PyData.hasDict, h2], ?_, sz_of ?_, k⟩
  · simp [PyData.depth, PySem.W.ke_depthAll]
  · rw [show PyData.bulk (.list (ns.map .int)) = ns.length by simp [PyData.bulk, h4]] at hb
    omega
theorem w_isiLst {K : PySem.W.Frag} {H : Hp} {Q : VK} {a : Addr} {xs : List V} (h : H a = some (.lst xs)) (k : Q (.bl true) H) : rIsi K [.ref a, .ty "list"] H Q := ⟨_, _, _, _, _, rfl, .ty _, .base (.lst h), kit_ty (by decide +kernel), k⟩
local macro_rules | `(tactic| tm_at "rs") => `(tactic| first | ((with_reducible refine' w_isiLst ?h ?k); (case h => tm_at "rlk")) | fail "no")

/-! data that can be shown: so deep, so many -/
structure ShD (d : PyData) (D N : Nat) : Prop where
  sh : d.showable = true
  nd : d.hasDict = false
  lv : d.leavesShort 600 = true
  dp : d.depth ≤ D
  bk : d.bulk ≤ N
structure ShL (ds : List PyData) (D N : Nat) : Prop where
  sh : PyData.showableAll ds = true
  nd : PyData.hasDictAll ds = false
  lv : PyData.leavesShortAll 600 ds = true
  dp : PyData.depthAll ds ≤ D
  bk : PyData.bulkAll ds ≤ N
theorem ShD.int {n : Int} {D : Nat} (h : n.natAbs < 10 ^ 500) : ShD (.int n) D 0 := by
  have e := int_text_length_le10 (k := 500) (by decide) h
  have hs : (PyData.shown (.int n)).length ≤ 600 := by
    show (Str.ofString (toString n)).length ≤ 600
    rw [PySem.ofString_length]
    omega
  have hl : n.natAbs.log2 < 1920 := PySem.Spec.log2_small (Nat.lt_of_lt_of_le h (by decide +kernel))
  exact ⟨by simp [PyData.showable, hl], by simp [PyData.hasDict], by simp [PyData.leavesShort, hs], by simp [PyData.depth], by simp [PyData.bulk]⟩
theorem ShD.str {x : Str} {D : Nat} (h : ∀ c ∈ x.cps.toList, c < 16 ^ 8) : ShD (.str x) D x.length := by
  refine ⟨by simp [PyData.showable], by simp [PyData.hasDict], ?_, by simp [PyData.depth], by simp [PyData.bulk]; exact Nat.le_refl _⟩
  simp only [PyData.leavesShort, List.all_eq_true, decide_eq_true_eq]
  exact h
theorem ShD.none {D : Nat} : ShD .none D 0 := ⟨rfl, rfl, rfl, by simp [PyData.depth], by simp [PyData.bulk]⟩
theorem ShL.nil {D : Nat} : ShL [] D 0 := ⟨rfl, rfl, rfl, by simp [PyData.depthAll], by simp [PyData.bulkAll]⟩
theorem ShL.cons {d : PyData} {ds : List PyData} {D N M : Nat} (h : ShD d D N) (k : ShL ds D M) : ShL (d :: ds) D (N + 1 + M) :=
  ⟨by simp [PyData.showableAll, h.sh, k.sh], by simp [PyData.hasDictAll, h.nd, k.nd], by simp [PyData.leavesShortAll, h.lv, k.lv], by
    have a := h.dp
    have b := k.dp
    simp only [PyData.depthAll]
    omega, by
    have a := h.bk
    have b := k.bk
    simp only [PyData.bulkAll]
    omega⟩
theorem ShL.up {ds : List PyData} {D D' N N' : Nat} (h : ShL ds D N) (a : D ≤ D') (b : N ≤ N') : ShL ds D' N' := ⟨h.sh, h.nd, h.lv, Nat.le_trans h.dp a, Nat.le_trans h.bk b⟩
theorem ShD.up {d : PyData} {D D' N N' : Nat} (h : ShD d D N) (a : D ≤ D') (b : N ≤ N') : ShD d D' N' := ⟨h.sh, h.nd, h.lv, Nat.le_trans h.dp a, Nat.le_trans h.bk b⟩
theorem ShL.tup {ds : List PyData} {D N : Nat} (h : ShL ds D N) : ShD (.tuple ds) (D + 1) N :=
  ⟨by simp [PyData.showable, h.sh], by simp [PyData.hasDict, h.nd], by simp [PyData.leavesShort, h.lv], by
    have a := h.dp
    simp only [PyData.depth]
    omega, by
    have b := h.bk
    simp only [PyData.bulk]
    omega⟩
theorem ShL.lst {ds : List PyData} {D N : Nat} (h : ShL ds D N) : ShD (.list ds) (D + 1) N :=
  ⟨by simp [PyData.showable, h.sh], by simp [PyData.hasDict, h.nd], by simp [PyData.leavesShort, h.lv], by
    have a := h.dp
    simp only [PyData.depth]
    omega, by
    have b := h.bk
    simp only [PyData.bulk]
    omega⟩
theorem ShL.all {D N : Nat} : ∀ {ds : List PyData}, (∀ d ∈ ds, ShD d D N) → ShL ds D (ds.length * (N + 1))
  | [], _ => by
    rw [List.length_nil, Nat.zero_mul]
    exact ShL.nil
  | d :: ds, h => by
    have a := ShL.cons (h d List.mem_cons_self) (ShL.all (ds := ds) fun x hx => h x (List.mem_cons_of_mem _ hx))
    refine a.up (Nat.le_refl _) ?_
    rw [List.length_cons, Nat.succ_mul]
    omega
theorem ShD.len {d : PyData} {D N : Nat} (h : ShD d D N) (b : N ≤ 27000) : d.shown.length ≤ sizeLine := by
  have e := PyData.shown_le_bulk 600 (by decide) d h.lv
  have e2 : (600 + 2) * d.bulk ≤ 602 * 27000 := Nat.mul_le_mul_left _ (Nat.le_trans h.bk b)
  have e3 : 602 * 27000 + 600 ≤ sizeLine := by decide
  omega
theorem w_repD {K : PySem.W.Frag} {H : Hp} {Q : VK} {a : Addr} {d : PyData} {D N : Nat} (h : Dp K H (.ref a) d) (s : ShD d D N) (hD : D ≤ 3000) (hN : N ≤ 27000) (k : Q (.str d.shown) H) : gRep K [.ref a] H Q :=
  .inl ⟨a, d, rfl, h, s.sh, s.nd, Nat.le_trans s.dp hD, s.len hN, k⟩
theorem ShL.nats {D : Nat} {l : List Nat} (h : ∀ n ∈ l, n < 10 ^ 500) : ShL (nD l) D l.length := by
  have e := ShL.all (ds := nD l) (D := D) (N := 0) fun d hd => by
    obtain ⟨n, hn, rfl⟩ := List.mem_map.mp hd
    exact ShD.int (by rw [Int.natAbs_natCast]; exact h n hn)
  refine e.up (Nat.le_refl _) ?_
  unfold nD
  rw [List.length_map]
  omega

/-! terms as data: alike, shown -/
def tmD : Tm → PyData
  | .num n => .tuple [.str "num", .int (n : Int)]
  | .name s => .tuple [.str "name", .str s]
  | .op w a b => .tuple [.str w, tmD a, tmD b]
theorem TmAt.dpD {K : PySem.W.Frag} {H : Hp} : ∀ {t : Tm} {v : V}, TmAt K H t v → Dp K H v (tmD t)
  | .num n, _, ⟨_, rfl, q⟩ => .tup q.sq (.cons (.str _) (.cons (.int _) .nil))
  | .name s, _, ⟨_, rfl, q⟩ => .tup q.sq (.cons (.str _) (.cons (.str _) .nil))
  | .op w a b, _, ⟨_, _, _, rfl, q, r1, r2⟩ => .tup q.sq (.cons (.str _) (.cons (TmAt.dpD r1) (.cons (TmAt.dpD r2) .nil)))
/-- names and words are plain texts -/
def TmL : Tm → Prop
  | .num _ => True
  | .name s => PyData.strOk s = true
  | .op w a b => PyData.strOk w = true ∧ TmL a ∧ TmL b
theorem tmD_lay : ∀ {t : Tm}, TmL t → (tmD t).canLay0 = true
  | .num n, _ => by
    have h : PyData.strOk (Str.ofString "num") = true := by decide +kernel
    simp [tmD, PyData.canLay0, PyData.canLayAll0, h]
  | .name s, hs => by
    have h : PyData.strOk (Str.ofString "name") = true := by decide +kernel
    have hs : PyData.strOk s = true := hs
    simp [tmD, PyData.canLay0, PyData.canLayAll0, h, hs]
  | .op w a b, hs => by
    obtain ⟨h1, h2, h3⟩ := hs
    simp [tmD, PyData.canLay0, PyData.canLayAll0, tmD_lay h2, tmD_lay h3, h1]
theorem tmD_dep : ∀ t : Tm, (tmD t).depth ≤ t.dep + 1
  | .num n => by simp [tmD, PyData.depth, PyData.depthAll]
  | .name s => by simp [tmD, PyData.depth, PyData.depthAll]
  | .op w a b => by
    have h1 := tmD_dep a
    have h2 := tmD_dep b
    show (PyData.tuple [.str w, tmD a, tmD b]).depth ≤ max a.dep b.dep + 1 + 1
    simp only [PyData.depth, PyData.depthAll]
    omega
/-- a saying as a tuple -/
def syD (w : Str) (s t : Tm) : PyData := .tuple [.str w, tmD s, tmD t]
theorem syD_lay {w : Str} {s t : Tm} (h : TmL (.op w s t)) : (syD w s t).canLay0 = true := by
  obtain ⟨h1, h2, h3⟩ := h
  simp [syD, PyData.canLay0, PyData.canLayAll0, tmD_lay h2, tmD_lay h3, h1]
theorem syD_dep {w : Str} {s t : Tm} (h1 : s.dep ≤ 2900) (h2 : t.dep ≤ 2900) : (syD w s t).depth ≤ 3000 := by
  have e1 := tmD_dep s
  have e2 := tmD_dep t
  simp only [syD, PyData.depth, PyData.depthAll]
  omega
theorem w_eqSay {K : PySem.W.Frag} {H : Hp} {Q : VK} {a b : Addr} {w : Str} {l1 r1 l2 r2 : V} {s t : Tm} (h1 : H a = some (.tup [.str w, l1, r1])) (h2 : H b = some (.tup [.str w, l2, r2])) (s1 : TmAt K H s l1) (t1 : TmAt K H t r1) (s2 : TmAt K H s l2) (t2 : TmAt K H t r2) (lw : TmL (.op w s t)) (d1 : s.dep ≤ 2900) (d2 : t.dep ≤ 2900) (k : Q (.bl true) H) : rEqDD K (.ref a) (.ref b) H Q := by
  refine ⟨syD w s t, syD w s t, .tup (st_of h1) (.cons (.str _) (.cons s1.dpD (.cons t1.dpD .nil))), .tup (st_of h2) (.cons (.str _) (.cons s2.dpD (.cons t2.dpD .nil))), syD_lay lw, syD_lay lw, syD_dep d1 d2, ?_⟩
  rw [PySem.SeqAt.eqv_refl _ (syD_lay lw)]
  exact k
theorem sayc_eq {K : PySem.W.Frag} {C D : Addr} (a : SayC K C) (b : SayC K D) : C = D := ClsN.uniq a b

/-! a stack of terms to be worked off, the top first -/
def WkOk (kvs : List (Key × V)) (g : Str → Nat) (r : Nat) : List (Tm × Bool) → List Nat → Prop
  | [], N => N = [r]
  | (t, false) :: S, N => TmOk kvs g t ∧ WkOk kvs g r S (ev g t :: N)
  | (t, true) :: S, N => ∃ (w : Str) (a b : Tm) (x y : Nat) (M : List Nat), t = .op w a b ∧ N = y :: x :: M ∧ CmOk w x y ∧ WkOk kvs g r S (cm w x y :: M)
def wk : Tm × Bool → Nat
  | (t, false) => t.wt
  | (_, true) => 1
def wks (S : List (Tm × Bool)) : Nat := (S.map wk).sum
theorem wk_pos (s : Tm × Bool) : 1 ≤ wk s := by
  obtain ⟨t, b⟩ := s
  cases b
  · exact t.wt_pos
  · exact Nat.le_refl _
theorem wks_len : ∀ S : List (Tm × Bool), S.length ≤ wks S
  | [] => Nat.le_refl _
  | s :: S => by
    have h1 := wks_len S
    have h2 := wk_pos s
    show S.length + 1 ≤ wk s + wks S
    omega
theorem wks_cons (s : Tm × Bool) (S : List (Tm × Bool)) : wks (s :: S) = wk s + wks S := rfl
/-- what lies on the stack, the top last -/
def StAt (K : PySem.W.Frag) (H : Hp) (q : V) (s : Tm × Bool) : Prop := ∃ p x, q = .ref p ∧ H p = some (.tup [x, .bl s.2]) ∧ TmAt K H s.1 x
theorem StAt.imp {K : PySem.W.Frag} {H H' : Hp} {q : V} {s : Tm × Bool} (h : ∀ p xs, H p = some (.tup xs) → H' p = some (.tup xs)) (r : StAt K H q s) : StAt K H' q s := by
  obtain ⟨p, x, e, k, t⟩ := r
  exact ⟨p, x, e, h _ _ k, t.imp h⟩
theorem tup_kpL {H H' : Hp} {b : Addr} {ys : List V} (hb : H b = some (.lst ys)) (e : Kp b H H') : ∀ p xs, H p = some (.tup xs) → H' p = some (.tup xs) := fun p xs q => e _ _ (by
  intro z
  rw [z, hb] at q
  cases q) q
theorem tup_sm {H H' : Hp} (e : Sm H H') : ∀ p xs, H p = some (.tup xs) → H' p = some (.tup xs) := fun p xs q => e _ _ q

/-! enumerate over a text -/
def ItSE (x : Str) : It :=
  ⟨fun i _ => i < x.cps.size, fun i H v H' => ∃ T c, v = .ref T ∧ H T = none ∧ H' = upd H T (.tup [.int (i : Nat), .str ⟨#[c]⟩]) ∧ x.cps[i]? = some c, fun i _ => x.cps.size = i⟩
theorem turn_SE {P : Program} {w : World} {K : PySem.W.Frag} {elts : List Expr} {kk : Nat} {tpos : Pos} (x : Str) (t : Tok) (e it : Addr) :
    Turn P w K (.Tuple elts kk tpos) (ItSE x) [e, it] e (fun i h => (∃ old, IsEnum h e it ((i : Nat) : Int) old) ∧ h.IsStrIter it (strIterType x) x t i ∧ e ≠ it) where
  mem := List.mem_cons_self
  obj := by
    rintro i h ⟨⟨old, he⟩, ⟨o, ho, hc, hd⟩, _⟩ b hb
    rcases (show b = e ∨ b = it by simpa using hb) with rfl | rfl
    · exact ⟨_, he, fun v q => nomatch q⟩
    · exact ⟨o, ho, fun v q => by rw [hd] at q; cases q⟩
  keep := by
    rintro i h h' ⟨⟨old, he⟩, ⟨o, ho, r⟩, ne⟩ k
    exact ⟨⟨old, k e (by simp) _ he⟩, ⟨o, k it (by simp) o ho, r⟩, ne⟩
  item := by
    intro X hP hw hK hc i pins s σ H E I hf st hg
    subst hP hw hK
    obtain ⟨⟨old, he⟩, hit, hne⟩ := st
    have hel : e < s.heap.objs.size := Heap.lt_size he
    have hil : it < s.heap.objs.size := by
      obtain ⟨_, q, _⟩ := hit
      exact Heap.lt_size q
    have hif : e ∉ [it] := by simpa using hne
    have D := Draws.text (prog := X.prog) (w := X.w) (A := X.A.in1) (I.ok.hd hc) it x t
    refine wpAny_pyNext_enum_itemD D he hit hg hne hif fun u h' tk hu ho hit' hT hsz hk => ?_
    obtain ⟨c, tc, hcx, rfl⟩ := hu
    refine ⟨_, rfl, wpAny_letOwnedTupleGo_enum (prog := X.prog) (w := X.w) (s := { s with heap := h', toks := tk + 1 }) ho fun h'' he' sb => ?_⟩
    have hT2 := (sb.2 _ (Nat.ne_of_gt hel)).trans hT
    have new : ObjOk X.prog X.w (upd H s.heap.objs.size (.tup [.int (i : Nat), .str ⟨#[c]⟩])) h'' s.heap.objs.size (.tup [.int (i : Nat), .str ⟨#[c]⟩]) :=
      ⟨by show 2 ≤ sizeLine; decide, [.int i tk, .str ⟨#[c]⟩ tc], .cons ⟨_, rfl⟩ (.cons ⟨_, rfl⟩ .nil), ⟨_, hT2, rfl, _, rfl⟩⟩
    have I1 := Inv.turnedNew (t' := tk + 1) I (ch := [e, it]) (fun b ob hb q => (sb.2 b (fun z => hb (by simp [z]))).trans (hk b ob (fun z => hb (by simp [z])) (fun z => hb (by simp [z])) q)) hf (Nat.le_refl _) new
    refine ⟨.ref s.heap.objs.size, _, I1, rfl, ⟨_, c, rfl, I.hok.fresh (Nat.le_refl _), rfl, hcx⟩, ⟨⟨.str ⟨#[c]⟩ tc, ?_⟩, ?_, hne⟩, fun b hb => ?_⟩
    · rw [show ((i + 1 : Nat) : Int) = (i : Int) + 1 from rfl]
      exact he'
    · obtain ⟨o, q, r⟩ := hit'
      exact ⟨o, (sb.2 it (Ne.symm hne)).trans q, r⟩
    · have hb' : b < s.heap.objs.size := by
        rcases (show b = e ∨ b = it by simpa using hb) with rfl | rfl
        · exact hel
        · exact hil
      rw [upd_ne (Nat.ne_of_lt hb')]
      exact (hf b hb).1
  done := by
    intro X hP hw hK hc i pins s σ H E I hf st hg
    subst hP hw hK
    obtain ⟨⟨old, he⟩, hit, hne⟩ := st
    have hg : x.cps.size = i := hg
    subst hg
    obtain ⟨f0, f1, f2, f3, f4, f5⟩ := hf it (by simp)
    have D := Draws.text (prog := X.prog) (w := X.w) (A := X.A.in1) (I.ok.hd hc) it x t
    exact wpAny_pyNext_enum_endD D he hit fun h' eb => ⟨rfl, I.turned (t' := s.toks) (fun b o hb q => eb b o hb q) f0 f1 f3 f4 f5⟩
  self := fun A i s Q E st h => by
    obtain ⟨⟨_, he⟩, _⟩ := st
    exact wpAny_pyIter_enum he h
def iSE (ta : TA) : TI := fun σ H R => ta σ H fun vs H1 => ∃ x, vs = [.str x] ∧ R (ItSE x) H1
theorem pi_SE {X : Cx} {e : Expr} {ta : TA} {p pos tpos : Pos} {elts : List Expr} {kk : Nat} (hg : Gl X "enumerate") (hm : X.mg "enumerate" = none) (ha : PA X [e] ta) (hs : starEach [e] X.env = [(false, eval e X.env)] := by rfl) :
    PI X (.Tuple elts kk tpos) (.Call (.Name "enumerate" p) [e] [] pos) (iSE ta) := by
  refine ⟨fun pins s σ H R I h => Call_ (ld_blt I hg hm boot_enumerate (PyProof.Rows.callWith_type1 (thn (ha.run pos pins s σ H _ I h) fun us s1 ⟨vs, H1, I1, r1, q1⟩ => ?_) hs rfl))⟩
  obtain ⟨x, rfl, q⟩ := q1
  obtain ⟨u, rfl, t, rfl⟩ := vals1 r1
  refine call_enumerate_str fun h' he hit hsz hk => wpAny_pyIter_enum he ?_
  have I2 : Inv X pins σ H1 { s1 with heap := h' } := Inv.kept (t' := s1.toks) I1 hk
  refine ⟨s1.heap.objs.size + 1, [s1.heap.objs.size + 1, s1.heap.objs.size], _, _, H1, rfl, I2, turn_SE x t (s1.heap.objs.size + 1) s1.heap.objs.size, ⟨⟨.none, he⟩, hit, Nat.succ_ne_self _⟩, fun b hb => ?_, q⟩
  have hle : s1.heap.objs.size ≤ b := by
    rcases (show b = s1.heap.objs.size + 1 ∨ b = s1.heap.objs.size by simpa using hb) with rfl | rfl
    · exact Nat.le_add_right _ _
    · exact Nat.le_refl _
  exact I1.fpOk hle (I1.hok.fresh hle)
theorem walk_SE {z : Str} : Walk (ItSE z) z.cps.size (fun _ => True) (fun i H v H' => ∃ T c, v = .ref T ∧ H T = none ∧ H' = upd H T (.tup [.int (i : Nat), .str ⟨#[c]⟩]) ∧ z.cps[i]? = some c) :=
  ⟨fun _ _ hi _ => hi, fun _ _ => rfl, fun _ _ _ _ _ _ y => y⟩
def SEe (R : It → Hp → Prop) (vs : List V) (H1 : Hp) : Prop := ∃ x, vs = [.str x] ∧ R (ItSE x) H1
theorem w_iSE {σ : L2.St} {H : Hp} {ta : TA} {R : It → Hp → Prop} (k : ta σ H fun vs H1 => SEe R vs H1) : iSE ta σ H R := k
theorem w_iSEe {H : Hp} {R : It → Hp → Prop} {x : Str} (k : R (ItSE x) H) : SEe R [.str x] H := ⟨x, rfl, k⟩
theorem loopSE {σ : L2.St} {H : Hp} {D : Ends} {g : TG} {tb : TS} {z : Str} (Pv : Nat → L2.St → Hp → Prop) (h0 : Pv 0 σ H)
    (hs : ∀ i c T σ H H', i < z.cps.size → z.cps.toList[i]? = some c → Pv i σ H → H T = none → Sm H H' → H' T = some (.tup [.int (i : Nat), .str ⟨#[c]⟩]) → g (.ref T) σ H' fun σ2 H2 => tb (En (Pv (i + 1)) (RT D) (NX D) (Pv (i + 1))) σ2 H2)
    (hd : ∀ σ H, Pv z.cps.size σ H → NX D σ H) : Loop (ItSE z) g tb D σ H :=
  for_it walk_SE Pv h0 (fun _ _ _ _ _ => trivial) (fun i x σ H H' hi p y => by
    obtain ⟨T, c, rfl, hT, rfl, hc⟩ := y
    exact hs i c T σ H _ hi (by rw [Array.getElem?_toList]; exact hc) p hT (sm_new hT) upd_same) hd
/-- what is never reached -/
theorem ps_never {X : Cx} {st : Stmt} : PS X st (fun _ _ _ => False) := ⟨fun _ _ _ _ _ _ h => h.elim⟩
local macro_rules | `(tactic| tm_at "rs") => `(tactic| first | with_reducible refine w_iSE ?_ | with_reducible refine w_iSEe ?_ | fail "no")

/-! enumerate over a list -/
def EnE (K : PySem.W.Frag) (R : It → Hp → Prop) (vs : List V) (H1 : Hp) : Prop := ∃ a xs, vs = [.ref a] ∧ SqL K H1 a xs ∧ R (Ite K a) H1
theorem w_iEn {K : PySem.W.Frag} {σ : L2.St} {H : Hp} {ta : TA} {R : It → Hp → Prop} (k : ta σ H fun vs H1 => EnE K R vs H1) : iEnum K ta σ H R := k
theorem w_iEne {K : PySem.W.Frag} {H : Hp} {R : It → Hp → Prop} {a : Addr} {xs : List V} (h : SqL K H a xs) (k : R (Ite K a) H) : EnE K R [.ref a] H := ⟨a, xs, rfl, h, k⟩
theorem loopEn {σ : L2.St} {H : Hp} {D : Ends} {K : PySem.W.Frag} {g : TG} {tb : TS} {a : Addr} {xs : List V} (Pv : Nat → L2.St → Hp → Prop) (h0 : Pv 0 σ H) (hl : ∀ i σ H, i ≤ xs.length → Pv i σ H → SqL K H a xs)
    (hs : ∀ i x T σ H H', i < xs.length → xs[i]? = some x → Pv i σ H → H T = none → Sm H H' → H' T = some (.tup [.int (i : Nat), x]) → g (.ref T) σ H' fun σ2 H2 => tb (En (Pv (i + 1)) (RT D) (NX D) (Pv (i + 1))) σ2 H2)
    (hd : ∀ σ H, Pv xs.length σ H → NX D σ H) : Loop (Ite K a) g tb D σ H :=
  for_it walk_enum Pv h0 hl (fun i x σ H H' hi p y => by
    obtain ⟨T, u, v, rfl, hT, rfl, h1, h2⟩ := y
    cases h1
    exact hs i v T σ H _ hi h2 p hT (sm_new hT) upd_same) hd
theorem lcEn {σ : L2.St} {H : Hp} {Q : VK} {K : PySem.W.Frag} {g : TG} {tt : TT} {te : TE} {vs : List Nat} {a : Addr} {xs : List V} (Pv : Addr → Nat → Hp → Prop) (h0 : ∀ D H', H D = none → Sm H H' → H' D = some (.lst []) → Pv D 0 H')
    (hl : ∀ D i H', H D = none → i ≤ xs.length → Pv D i H' → SqL K H' a xs)
    (hs : ∀ D i x T H1 H', H D = none → i < xs.length → xs[i]? = some x → Pv D i H1 → H1 T = none → Sm H1 H' → H' T = some (.tup [.int (i : Nat), x]) → g (.ref T) (wipe σ vs) H' fun σ2 H2 => LcGo vs σ σ2 (tt σ2 H2 fun b H3 => if b = true then te σ2 H3 fun y H4 => LcEnd D y (Pv D (i + 1)) H4 else Pv D (i + 1) H3))
    (hd : ∀ D H', H D = none → Pv D xs.length H' → Q (.ref D) H') : LcL (Ite K a) g tt te vs σ H Q := fun D hD =>
  lc_it walk_enum (Pv D) (h0 D _ hD (sm_new hD) upd_same) (fun i H' hi p => hl D i H' hD hi p) (fun i x H1 H' hi p y => by
    obtain ⟨T, u, v, rfl, hT, rfl, h1, h2⟩ := y
    cases h1
    exact hs D i v T H1 _ hD hi h2 p hT (sm_new hT) upd_same) (fun H' p => hd D H' hD p)
local macro_rules | `(tactic| tm_at "rs") => `(tactic| first | with_reducible refine w_iEn ?_ | ((with_reducible refine' w_iEne ?h ?k); (case h => tm_at "rsq")) | fail "no")

/-! sayings of the word same, terms summed -/
def SayT (K : PySem.W.Frag) (H : Hp) (v : V) (ab : Tm × Tm) : Prop := ∃ l r, SayAt K H v "same" l r ∧ TmAt K H ab.1 l ∧ TmAt K H ab.2 r
theorem SayT.sm {K : PySem.W.Frag} {H H' : Hp} {v : V} {ab : Tm × Tm} (h : SayT K H v ab) (e : Sm H H') : SayT K H' v ab := by
  obtain ⟨l, r, a, b, c⟩ := h
  exact ⟨l, r, a.sm e, b.sm e, c.sm e⟩
def TmsAt (K : PySem.W.Frag) (H : Hp) (vs : List V) (ts : List Tm) : Prop := Paired (fun v t => TmAt K H t v) vs ts
theorem TmsAt.sm {K : PySem.W.Frag} {H H' : Hp} {vs : List V} {ts : List Tm} (h : TmsAt K H vs ts) (e : Sm H H') : TmsAt K H' vs ts := paired_mono (fun _ _ q => q.sm e) h
theorem TmsAt.kpL {K : PySem.W.Frag} {H H' : Hp} {vs : List V} {ts : List Tm} {b : Addr} {ys : List V} (h : TmsAt K H vs ts) (hb : H b = some (.lst ys)) (e : Kp b H H') : TmsAt K H' vs ts := paired_mono (fun _ _ q => q.kpL hb e) h
theorem TmsAt.add {K : PySem.W.Frag} {H : Hp} {vs : List V} {ts : List Tm} {v : V} {t : Tm} (h : TmsAt K H vs ts) (e : TmAt K H t v) : TmsAt K H (vs ++ [v]) (ts ++ [t]) := paired_app h (.cons e .nil)
def sumT : List Tm → Tm
  | [] => .num 0
  | t :: ts => ts.foldl (fun a b => .op "plus" a b) t
theorem sumT_one (t : Tm) : sumT [t] = t := rfl
theorem sumT_add {ts : List Tm} {t : Tm} (h : ts ≠ []) : sumT (ts ++ [t]) = .op "plus" (sumT ts) t := by
  cases ts with
  | nil => exact absurd rfl h
  | cons a as =>
    show (as ++ [t]).foldl _ a = _
    rw [List.foldl_append]
    rfl
def sqT (ab : Tm × Tm) : Tm := .op "plus" (.op "times" ab.1 ab.1) (.op "times" ab.2 ab.2)
def prT (ab : Tm × Tm) : Tm := .op "times" (.num 2) (.op "times" ab.1 ab.2)

/-! long sums shown -/
def TmX : Tm → Prop
  | .num n => n < 10 ^ 12
  | .name s => PyData.strOk s = true ∧ s.length ≤ 20
  | .op w a b => (PyData.strOk w = true ∧ w.length ≤ 20) ∧ TmX a ∧ TmX b
theorem TmX.l : ∀ {t : Tm}, TmX t → TmL t
  | .num _, _ => trivial
  | .name _, h => h.1
  | .op _ _ _, ⟨h1, h2, h3⟩ => ⟨h1.1, h2.l, h3.l⟩
structure Shb (d : PyData) (N : Nat) : Prop where
  sh : d.showable = true
  nd : d.hasDict = false
  lv : d.leavesShort 20 = true
  bk : d.bulk ≤ N
theorem shb_str {x : Str} (h : PyData.strOk x = true) (l : x.length ≤ 20) : Shb (.str x) 20 := by
  refine ⟨by simp [PyData.showable], by simp [PyData.hasDict], ?_, by simp [PyData.bulk]; exact l⟩
  simp only [PyData.leavesShort, List.all_eq_true, decide_eq_true_eq]
  intro c hc
  unfold PyData.strOk at h
  rw [← Array.all_toList] at h
  have h1 := of_decide_eq_true (List.all_eq_true.mp h c hc)
  have : (16 : Nat) ^ 8 = 4294967296 := by decide
  omega
theorem shb_int {n : Nat} (h : n < 10 ^ 12) : Shb (.int (n : Int)) 0 := by
  have e := int_text_length_le10 (k := 12) (by decide) (show (n : Int).natAbs < 10 ^ 12 by rw [Int.natAbs_natCast]; exact h)
  have hs : (PyData.shown (.int (n : Int))).length ≤ 20 := by
    show (Str.ofString (toString (n : Int))).length ≤ 20
    rw [PySem.ofString_length]
    omega
  have hl : (n : Int).natAbs.log2 < 1920 := PySem.Spec.log2_small (by rw [Int.natAbs_natCast]; exact Nat.lt_of_lt_of_le h (by decide +kernel))
  rw [Int.natAbs_natCast] at hl
  exact ⟨by simp [PyData.showable, hl], by simp [PyData.hasDict], by simp [PyData.leavesShort, hs], by simp [PyData.bulk]⟩
theorem shb_two {a b : PyData} {n m : Nat} (ha : Shb a n) (hb : Shb b m) : Shb (.tuple [a, b]) (n + m + 2) :=
  ⟨by simp [PyData.showable, PyData.showableAll, ha.sh, hb.sh], by simp [PyData.hasDict, PyData.hasDictAll, ha.nd, hb.nd], by simp [PyData.leavesShort, PyData.leavesShortAll, ha.lv, hb.lv], by
    have := ha.bk
    have := hb.bk
    simp only [PyData.bulk, PyData.bulkAll]
    omega⟩
theorem shb_three {a b c : PyData} {n m l : Nat} (ha : Shb a n) (hb : Shb b m) (hc : Shb c l) : Shb (.tuple [a, b, c]) (n + m + l + 3) :=
  ⟨by simp [PyData.showable, PyData.showableAll, ha.sh, hb.sh, hc.sh], by simp [PyData.hasDict, PyData.hasDictAll, ha.nd, hb.nd, hc.nd], by simp [PyData.leavesShort, PyData.leavesShortAll, ha.lv, hb.lv, hc.lv], by
    have := ha.bk
    have := hb.bk
    have := hc.bk
    simp only [PyData.bulk, PyData.bulkAll]
    omega⟩
theorem Shb.up {d : PyData} {n m : Nat} (h : Shb d n) (l : n ≤ m) : Shb d m := ⟨h.sh, h.nd, h.lv, Nat.le_trans h.bk l⟩
theorem shb_tm : ∀ {t : Tm}, TmX t → Shb (tmD t) (30 * t.wt)
  | .num n, h => (shb_two (shb_str (x := "num") (by decide +kernel) (by decide)) (shb_int h)).up (by show 20 + 0 + 2 ≤ 30 * 1; decide)
  | .name s, h => (shb_two ⟨rfl, rfl, (shb_str (x := "name") (by decide +kernel) (by decide)).lv, show (4 : Nat) ≤ 4 from Nat.le_refl _⟩ (shb_str h.1 h.2)).up (by show 4 + 20 + 2 ≤ 30 * 1; decide)
  | .op w a b, ⟨h1, h2, h3⟩ => (shb_three (shb_str h1.1 h1.2) (shb_tm h2) (shb_tm h3)).up (by show 20 + 30 * a.wt + 30 * b.wt + 3 ≤ 30 * (a.wt + b.wt + 2); omega)
theorem shb_sy {w : Str} {s t : Tm} (h : TmX (.op w s t)) : Shb (syD w s t) (30 * (Tm.op w s t).wt) := shb_tm h
theorem w_repB {K : PySem.W.Frag} {H : Hp} {Q : VK} {a : Addr} {l r : V} {w : Str} {s t : Tm} (h : H a = some (.tup [.str w, l, r])) (ht : TmAt K H s l) (hr : TmAt K H t r) (hx : TmX (.op w s t)) (d1 : s.dep ≤ 2900) (d2 : t.dep ≤ 2900) (hw : (Tm.op w s t).wt ≤ 24000) (k : Q (.str (syD w s t).shown) H) : gRep K [.ref a] H Q := by
  have sb := shb_sy hx
  refine .inl ⟨a, syD w s t, rfl, .tup (st_of h) (.cons (.str _) (.cons ht.dpD (.cons hr.dpD .nil))), sb.sh, sb.nd, syD_dep d1 d2, ?_, k⟩
  have e := PyData.shown_le_bulk 20 (by decide) (syD w s t) sb.lv
  have e2 : (20 + 2) * (syD w s t).bulk ≤ 22 * (30 * 24000) := Nat.mul_le_mul_left _ (Nat.le_trans sb.bk (Nat.mul_le_mul_left _ hw))
  have e3 : 22 * (30 * 24000) + 20 ≤ sizeLine := by decide
  omega
theorem fold_X : ∀ {ts : List Tm} {a : Tm}, TmX a → (∀ t ∈ ts, TmX t) → TmX (ts.foldl (fun a b => .op "plus" a b) a)
  | [], _, h, _ => h
  | t :: ts, a, h, k => fold_X (ts := ts) (a := .op "plus" a t) ⟨⟨by decide +kernel, by decide⟩, h, k t List.mem_cons_self⟩ fun u hu => k u (List.mem_cons_of_mem _ hu)
theorem fold_wt {w : Nat} : ∀ {ts : List Tm} {a : Tm}, (∀ t ∈ ts, t.wt ≤ w) → (ts.foldl (fun a b => Tm.op "plus" a b) a).wt ≤ a.wt + ts.length * (w + 2)
  | [], a, _ => by
    show a.wt ≤ a.wt + 0 * (w + 2)
    omega
  | t :: ts, a, k => by
    have h := fold_wt (ts := ts) (a := .op "plus" a t) fun u hu => k u (List.mem_cons_of_mem _ hu)
    have h2 := k t List.mem_cons_self
    have h3 : (Tm.op (Str.ofString "plus") a t).wt = a.wt + t.wt + 2 := rfl
    show (ts.foldl (fun a b => Tm.op "plus" a b) (.op "plus" a t)).wt ≤ _
    rw [List.length_cons, Nat.succ_mul]
    omega
theorem fold_depA {d : Nat} : ∀ {ts : List Tm} {a : Tm}, (∀ t ∈ ts, t.dep ≤ d) → (ts.foldl (fun a b => Tm.op "plus" a b) a).dep ≤ max a.dep d + ts.length
  | [], a, _ => by
    show a.dep ≤ _
    omega
  | t :: ts, a, k => by
    have h := fold_depA (ts := ts) (a := .op "plus" a t) fun u hu => k u (List.mem_cons_of_mem _ hu)
    have h2 := k t List.mem_cons_self
    have h3 : (Tm.op (Str.ofString "plus") a t).dep = max a.dep t.dep + 1 := rfl
    show (ts.foldl (fun a b => Tm.op "plus" a b) (.op "plus" a t)).dep ≤ _
    rw [List.length_cons]
    omega
theorem sumT_X {ts : List Tm} (h : ∀ t ∈ ts, TmX t) : TmX (sumT ts) := by
  cases ts with
  | nil => show (0 : Nat) < 10 ^ 12; decide
  | cons t ts => exact fold_X (h t List.mem_cons_self) fun u hu => h u (List.mem_cons_of_mem _ hu)
theorem sumT_wt {w : Nat} {ts : List Tm} (h : ∀ t ∈ ts, t.wt ≤ w) : (sumT ts).wt ≤ 1 + ts.length * (w + 2) := by
  cases ts with
  | nil => show 1 ≤ _; omega
  | cons t ts =>
    have e := fold_wt (a := t) fun u hu => h u (List.mem_cons_of_mem _ hu)
    have e2 := h t List.mem_cons_self
    show (ts.foldl (fun a b => Tm.op "plus" a b) t).wt ≤ _
    rw [List.length_cons, Nat.succ_mul]
    omega
theorem sumT_dep {d : Nat} {ts : List Tm} (h : ∀ t ∈ ts, t.dep ≤ d) : (sumT ts).dep ≤ d + ts.length := by
  cases ts with
  | nil => show 0 ≤ _; omega
  | cons t ts =>
    have e := fold_depA (a := t) fun u hu => h u (List.mem_cons_of_mem _ hu)
    have e2 := h t List.mem_cons_self
    show (ts.foldl (fun a b => Tm.op "plus" a b) t).dep ≤ _
    rw [List.length_cons]
    omega
theorem isi_say {K : PySem.W.Frag} {H : Hp} {Q : VK} {v l r : V} {w : Str} {C : Addr} (h : SayAt K H v w l r) (hC : SayC K C) (o : ClsO K C) (k : Q (.bl true) H) : rIsi K [v, .ref C] H Q := by
  obtain ⟨p, D, dx, rfl, c, g⟩ := h
  obtain rfl := sayc_eq c hC
  exact w_isiOwn g c.cl o k
/-- drawn sides of a saying -/
def D69 (ab : Tm × Tm) : Prop := TmX ab.1 ∧ TmX ab.2 ∧ ab.1.dep ≤ 3 ∧ ab.2.dep ≤ 3 ∧ ab.1.wt ≤ 30 ∧ ab.2.wt ≤ 30
theorem d69_X {abs : List (Tm × Tm)} (h : ∀ ab ∈ abs, D69 ab) : TmX (.op "same" (sumT (abs.map sqT)) (sumT (abs.map prT))) := by
  refine ⟨⟨by decide +kernel, by decide⟩, sumT_X fun t ht => ?_, sumT_X fun t ht => ?_⟩
  · obtain ⟨ab, hab, rfl⟩ := List.mem_map.mp ht
    obtain ⟨h1, h2, _⟩ := h ab hab
    exact ⟨⟨by decide +kernel, by decide⟩, ⟨⟨by decide +kernel, by decide⟩, h1, h1⟩, ⟨⟨by decide +kernel, by decide⟩, h2, h2⟩⟩
  · obtain ⟨ab, hab, rfl⟩ := List.mem_map.mp ht
    obtain ⟨h1, h2, _⟩ := h ab hab
    exact ⟨⟨by decide +kernel, by decide⟩, show (2 : Nat) < 10 ^ 12 by decide, ⟨⟨by decide +kernel, by decide⟩, h1, h2⟩⟩
theorem d69_dep {abs : List (Tm × Tm)} (h : ∀ ab ∈ abs, D69 ab) (l : abs.length ≤ 100) : (sumT (abs.map sqT)).dep ≤ 2900 ∧ (sumT (abs.map prT)).dep ≤ 2900 := by
  have e1 := sumT_dep (d := 5) (ts := abs.map sqT) fun t ht => by
    obtain ⟨ab, hab, rfl⟩ := List.mem_map.mp ht
    obtain ⟨_, _, h1, h2, _⟩ := h ab hab
    show max (max ab.1.dep ab.1.dep + 1) (max ab.2.dep ab.2.dep + 1) + 1 ≤ 5
    omega
  have e2 := sumT_dep (d := 5) (ts := abs.map prT) fun t ht => by
    obtain ⟨ab, hab, rfl⟩ := List.mem_map.mp ht
    obtain ⟨_, _, h1, h2, _⟩ := h ab hab
    show max 0 (max ab.1.dep ab.2.dep + 1) + 1 ≤ 5
    omega
  rw [List.length_map] at e1 e2
  omega
theorem d69_wt {abs : List (Tm × Tm)} (h : ∀ ab ∈ abs, D69 ab) (l : abs.length ≤ 100) : (Tm.op "same" (sumT (abs.map sqT)) (sumT (abs.map prT))).wt ≤ 24000 := by
  have e1 := sumT_wt (w := 126) (ts := abs.map sqT) fun t ht => by
    obtain ⟨ab, hab, rfl⟩ := List.mem_map.mp ht
    obtain ⟨_, _, _, _, h1, h2⟩ := h ab hab
    show (ab.1.wt + ab.1.wt + 2) + (ab.2.wt + ab.2.wt + 2) + 2 ≤ 126
    omega
  have e2 := sumT_wt (w := 66) (ts := abs.map prT) fun t ht => by
    obtain ⟨ab, hab, rfl⟩ := List.mem_map.mp ht
    obtain ⟨_, _, _, _, h1, h2⟩ := h ab hab
    show 1 + (ab.1.wt + ab.2.wt + 2) + 2 ≤ 66
    omega
  rw [List.length_map] at e1 e2
  show (sumT (abs.map sqT)).wt + (sumT (abs.map prT)).wt + 2 ≤ 24000
  omega

/-! names that give way to others, as a dict of texts tells -/
def Nm (s : Str) : Prop := PyData.strOk s = true ∧ s.length ≤ 20
theorem nm_low {s : Str} (hs : Low s) (l : s.length ≤ 20) : Nm s := by
  refine ⟨?_, l⟩
  unfold PyData.strOk
  rw [← Array.all_toList, List.all_eq_true]
  intro c hc
  have := hs c hc
  exact decide_eq_true (by omega)
structure TxD (kvs : List (Key × V)) : Prop where
  nd : (kvs.map (·.1)).Nodup
  ok : ∀ p ∈ kvs, ∃ s u : Str, p = (Sum.inr s, V.str u) ∧ Nm s ∧ Nm u
theorem TxD.nil : TxD [] := ⟨List.nodup_nil, fun p h => by cases h⟩
theorem TxD.put {kvs : List (Key × V)} (h : TxD kvs) {s u : Str} (hs : Nm s) (hu : Nm u) : TxD (putK kvs (.inr s) (.str u)) := by
  refine ⟨?_, ?_⟩
  · unfold putK
    split
    · rw [List.map_map]
      refine cast ?_ h.nd
      congr 1
      refine List.map_congr_left fun x _ => ?_
      show x.1 = (if x.1 = Sum.inr s then (x.1, V.str u) else x).1
      split <;> rfl
    · rename_i hno
      rw [List.map_append]
      refine List.nodup_append.mpr ⟨h.nd, by simp, fun x hx y hy => ?_⟩
      have hy : y = Sum.inr s := List.mem_singleton.mp hy
      subst hy
      rintro rfl
      obtain ⟨p, hp, e⟩ := List.mem_map.mp hx
      exact hno (List.any_eq_true.mpr ⟨p, hp, decide_eq_true e⟩)
  · intro p hp
    unfold putK at hp
    split at hp
    · obtain ⟨r, hr, rfl⟩ := List.mem_map.mp hp
      split
      · rename_i e
        exact ⟨s, u, by rw [e], hs, hu⟩
      · exact h.ok r hr
    · rcases List.mem_append.mp hp with hp | hp
      · exact h.ok p hp
      · rw [List.mem_singleton.mp hp]
        exact ⟨s, u, rfl, hs, hu⟩
theorem TxD.merge : ∀ {more kvs : List (Key × V)}, TxD kvs → (∀ p ∈ more, ∃ s u : Str, p = (Sum.inr s, V.str u) ∧ Nm s ∧ Nm u) → TxD (mergeK kvs more)
  | [], _, h, _ => h
  | q :: r, kvs, h, hm => by
    obtain ⟨s, u, rfl, hs, hu⟩ := hm q List.mem_cons_self
    exact TxD.merge (more := r) (h.put hs hu) fun p hp => hm p (List.mem_cons_of_mem _ hp)
def sbN (kvs : List (Key × V)) (s : Str) : Str := match valV kvs (.inr s) with
  | some (.str u) => u
  | _ => s
theorem TxD.get {kvs : List (Key × V)} (h : TxD kvs) (s : Str) : (valV kvs (.inr s)).getD (.str s) = .str (sbN kvs s) := by
  unfold sbN
  cases e : valV kvs (.inr s) with
  | none => rfl
  | some v =>
    obtain ⟨s', u, e1, _⟩ := h.ok _ (valV_some e)
    cases e1
    rfl
theorem TxD.nm {kvs : List (Key × V)} (h : TxD kvs) {s : Str} (hs : Nm s) : Nm (sbN kvs s) := by
  unfold sbN
  cases e : valV kvs (.inr s) with
  | none => exact hs
  | some v =>
    obtain ⟨s', u, e1, _, hu⟩ := h.ok _ (valV_some e)
    cases e1
    exact hu
def Tm.led (kvs : List (Key × V)) : Tm → Tm
  | .num n => .num n
  | .name s => .name (sbN kvs s)
  | .op w a b => .op w (a.led kvs) (b.led kvs)
/-- terms with words of their own -/
def TmN : Tm → Prop
  | .num _ => True
  | .name _ => True
  | .op w a b => w ≠ "num" ∧ w ≠ "name" ∧ TmN a ∧ TmN b
theorem TmX.led {kvs : List (Key × V)} (d : TxD kvs) : ∀ {t : Tm}, TmX t → TmX (t.led kvs)
  | .num _, h => h
  | .name _, h => d.nm h
  | .op _ _ _, ⟨h, a, b⟩ => ⟨h, TmX.led d a, TmX.led d b⟩
theorem led_dep (kvs : List (Key × V)) : ∀ t : Tm, (t.led kvs).dep = t.dep
  | .num _ => rfl
  | .name _ => rfl
  | .op _ a b => by
    show max (a.led kvs).dep (b.led kvs).dep + 1 = max a.dep b.dep + 1
    rw [led_dep kvs a, led_dep kvs b]
theorem led_wt (kvs : List (Key × V)) : ∀ t : Tm, (t.led kvs).wt = t.wt
  | .num _ => rfl
  | .name _ => rfl
  | .op _ a b => by
    show (a.led kvs).wt + (b.led kvs).wt + 2 = a.wt + b.wt + 2
    rw [led_wt kvs a, led_wt kvs b]
theorem led_nil : ∀ t : Tm, t.led [] = t
  | .num _ => rfl
  | .name _ => rfl
  | .op _ a b => by
    show Tm.op _ (a.led []) (b.led []) = _
    rw [led_nil a, led_nil b]
/-- d.get(k, x) -/
def Dg2E (tx : TE) (σ : L2.St) (Q : VK) (a : Addr) (y : V) (H2 : Hp) : Prop := tx σ H2 fun z H3 => ∃ o, DGet H3 a y o ∧ Q (o.getD z) H3
def Dg1E (ty tx : TE) (σ : L2.St) (Q : VK) (x : V) (H1 : Hp) : Prop := ∃ a, x = .ref a ∧ IsD H1 a ∧ ty σ H1 fun y H2 => Dg2E tx σ Q a y H2
theorem w_dget2 {td ty tx : TE} {σ : L2.St} {H : Hp} {Q : VK} (k : td σ H fun x H1 => Dg1E ty tx σ Q x H1) : tDGet2 td ty tx σ H Q := k
theorem w_dget2a {ty tx : TE} {σ : L2.St} {H : Hp} {Q : VK} {a : Addr} {kvs : List (Key × V)} (h : H a = some (.dK kvs)) (k : ty σ H fun y H2 => Dg2E tx σ Q a y H2) : Dg1E ty tx σ Q (.ref a) H := ⟨a, rfl, .inl ⟨kvs, .inl h⟩, k⟩
def DgdE (Q : VK) (a : Addr) (y z : V) (H3 : Hp) : Prop := ∃ o, DGet H3 a y o ∧ Q (o.getD z) H3
theorem w_dget2b {tx : TE} {σ : L2.St} {H : Hp} {Q : VK} {a : Addr} {y : V} (k : tx σ H fun z H3 => DgdE Q a y z H3) : Dg2E tx σ Q a y H := k
theorem w_dget2c {H : Hp} {Q : VK} {a : Addr} {s : Str} {z : V} {kvs : List (Key × V)} (h : H a = some (.dK kvs)) (k : Q ((valV kvs (.inr s)).getD z) H) : DgdE Q a (.str s) z H :=
  ⟨_, .inl ⟨kvs, .inr s, .inl h, rfl, rfl⟩, k⟩
theorem w_dget2s {H : Hp} {Q : VK} {a : Addr} {s : Str} {kvs : List (Key × V)} (h : H a = some (.dK kvs)) (d : TxD kvs) (k : Q (.str (sbN kvs s)) H) : DgdE Q a (.str s) (.str s) H :=
  w_dget2c h (by rw [d.get]; exact k)
/-- two dicts of texts alike -/
theorem w_neT {H : Hp} {Q : VK} {a b : Addr} {kvs : List (Key × V)} (ha : H a = some (.dK kvs)) (hb : H b = some (.dK kvs)) (d : TxD kvs) (k : Q (.bl false) H) : rNeDA (.ref a) (.ref b) H Q :=
  ⟨a, b, kvs, kvs, rfl, rfl, ha, hb, rfl, fun p hp => by
    obtain ⟨s, u, rfl, _, _⟩ := d.ok p hp
    exact ⟨valV_nd d.nd hp, rfl⟩, k⟩
/-! a comprehension over a dict's items, the dict locked -/
theorem w_lockE {t : TE} {σ : L2.St} {H : Hp} {Q : VK} {d : Addr} {u : HO} (h : H d = some u) (m : Mut (some u)) (k : ∀ od, t σ (upd H d (.frz od u)) fun v H' => H' d = some (.frz od u) ∧ Q v (upd H' d u)) : tLockE t σ H Q := ⟨d, u, h, m, k⟩
def dictPE (K : PySem.W.Frag) (xs : List V) (H : Hp) (Q : VK) : Prop := ∃ (a : Addr) (ps : List Addr) (kvs : List (Key × V)), xs = [.ref a] ∧ SqL K H a (ps.map V.ref) ∧ Paired (fun p kv => SqT K H p [kV kv.1, kv.2]) ps kvs ∧ ∀ p, H p = none → Q (.ref p) (upd H p (.dK (mergeK [] kvs)))
theorem call_gDictP {X : Cx} {K : PySem.W.Frag} (hK : K = X.K) (hc : X.calm = true) : CallR X (.type "dict") (dictPE K) := by
  subst hK
  exact call_dictP hc
theorem w_dictP {K : PySem.W.Frag} {H : Hp} {Q : VK} {a : Addr} {ps : List Addr} {kvs : List (Key × V)} (h : SqL K H a (ps.map V.ref)) (hp : Paired (fun p kv => SqT K H p [kV kv.1, kv.2]) ps kvs) (k : ∀ p H', H p = none → Sm H H' → H' p = some (.dK (mergeK [] kvs)) → Q (.ref p) H') : dictPE K [.ref a] H Q :=
  ⟨a, ps, kvs, rfl, h, hp, fun p hn => k p _ hn (sm_new hn) upd_same⟩
def ItiE (R : It → Hp → Prop) (x : V) (H1 : Hp) : Prop := ∃ d o kvs, x = .ref d ∧ H1 d = some (.frz o (.dK kvs)) ∧ R (Iti d o kvs) H1
theorem w_iItems {σ : L2.St} {H : Hp} {td : TE} {R : It → Hp → Prop} (k : td σ H fun x H1 => ItiE R x H1) : iItems td σ H R := k
theorem w_iItE {H : Hp} {R : It → Hp → Prop} {d : Addr} {o : Obj} {kvs : List (Key × V)} (h : H d = some (.frz o (.dK kvs))) (k : R (Iti d o kvs) H) : ItiE R (.ref d) H := ⟨d, o, kvs, rfl, h, k⟩
theorem lcIt {σ : L2.St} {H : Hp} {Q : VK} {g : TG} {tt : TT} {te : TE} {vs : List Nat} {d : Addr} {od : Obj} {kvs : List (Key × V)} (Pv : Addr → Nat → Hp → Prop) (h0 : ∀ D H', H D = none → Sm H H' → H' D = some (.lst []) → Pv D 0 H')
    (hl : ∀ D i H', H D = none → i ≤ kvs.length → Pv D i H' → H' d = some (.frz od (.dK kvs)))
    (hs : ∀ D i k v T H1 H', H D = none → i < kvs.length → kvs[i]? = some (k, v) → Pv D i H1 → H1 T = none → Sm H1 H' → H' T = some (.tup [kV k, v]) → g (.ref T) (wipe σ vs) H' fun σ2 H2 => LcGo vs σ σ2 (tt σ2 H2 fun b H3 => if b = true then te σ2 H3 fun y H4 => LcEnd D y (Pv D (i + 1)) H4 else Pv D (i + 1) H3))
    (hd : ∀ D H', H D = none → Pv D kvs.length H' → Q (.ref D) H') : LcL (Iti d od kvs) g tt te vs σ H Q := fun D hD =>
  lc_it walk_items (Pv D) (h0 D _ hD (sm_new hD) upd_same) (fun i H' hi p => hl D i H' hD hi p) (fun i x H1 H' hi p y => by
    obtain ⟨T, u, v, rfl, hT, rfl, h1, h2⟩ := y
    have h1 : (kvs[i]?.map fun kv => kV kv.1) = some u := h1
    have h2 : (kvs[i]?.map Prod.snd) = some v := h2
    cases e : kvs[i]? with
    | none => rw [e] at h1; cases h1
    | some kv =>
      rw [e] at h1 h2
      cases h1
      cases h2
      exact hs D i kv.1 kv.2 T H1 _ hD hi e p hT (sm_new hT) upd_same) (fun H' p => hd D H' hD p)
def swK (kv : Key × V) : Key × V := match kv with
  | (.inr s, .str u) => (.inr u, .str s)
  | kv => kv
theorem TxD.sw {kvs : List (Key × V)} (h : TxD kvs) : ∀ p ∈ kvs.map swK, ∃ s u : Str, p = (Sum.inr s, V.str u) ∧ Nm s ∧ Nm u := fun p hp => by
  obtain ⟨q, hq, rfl⟩ := List.mem_map.mp hp
  obtain ⟨s, u, rfl, hs, hu⟩ := h.ok q hq
  exact ⟨u, s, rfl, hu, hs⟩
local macro_rules | `(tactic| tm_at "rs") => `(tactic| first | with_reducible refine w_dget2 ?_ | ((with_reducible refine' w_dget2a ?h ?k); (case h => tm_at "rlk")) | with_reducible refine w_dget2b ?_ | ((with_reducible refine' w_dget2s ?h ?d ?k); (case h => tm_at "rlk"); (case d => assumption)) | with_reducible refine w_iItems ?_ | ((with_reducible refine' w_iItE ?h ?k); (case h => assumption)) | fail "no")

/-! how far off -/
def stn (x y : Nat) : Nat := x - (x &&& y)
def offI (w : Str) (x y : Nat) : Int := (if w = "under" then ((stn x y : Nat) : Int) else (x : Int) - y) * (if w = "under" then ((stn x y : Nat) : Int) else (x : Int) - y)
theorem tm_bd {kvs : List (Key × V)} {g : Str → Nat} : ∀ {t : Tm}, TmOk kvs g t → ∃ r : Nat, ev g t < 2 ^ r ∧ r ≤ 1000000
  | .num _, h => h
  | .name _, h => h.2
  | .op w a b, ⟨_, _, _, _, n, n1, hx, hc⟩ => by
    show ∃ r, cm w (ev g a) (ev g b) < 2 ^ r ∧ r ≤ 1000000
    rcases hc with ⟨rfl, hy, h⟩ | ⟨rfl, m, hy, h⟩ | ⟨h1, h2, _, r, hr1, hr2⟩
    · refine ⟨n + 1, ?_, h⟩
      show ev g a + ev g b < _
      rw [Nat.pow_succ]
      omega
    · refine ⟨n + m, ?_, h⟩
      show ev g a * ev g b < _
      rw [Nat.pow_add]
      exact Nat.mul_lt_mul'' hx hy
    · refine ⟨r, ?_, hr2⟩
      unfold cm
      rw [if_neg h1, if_neg h2]
      exact hr1
theorem stn_le (x y : Nat) : stn x y ≤ x := Nat.sub_le _ _
theorem stn_zero (y : Nat) : stn 0 y = 0 := Nat.zero_sub _
theorem stn_step (x y : Nat) : stn x y = 2 * stn (x / 2) (y / 2) + (if x % 2 = 1 ∧ y % 2 = 0 then 1 else 0) := by
  unfold stn
  have h1 : (x &&& y) / 2 = x / 2 &&& y / 2 := Nat.and_div_two
  have h2 : x &&& y ≤ x := Nat.and_le_left
  have h3 : x / 2 &&& y / 2 ≤ x / 2 := Nat.and_le_left
  have h4 := @Nat.and_mod_two_eq_one x y
  split
  · rename_i h
    have : (x &&& y) % 2 = 0 := by
      have := Nat.mod_two_eq_zero_or_one (x &&& y)
      omega
    omega
  · rename_i h
    have : (x &&& y) % 2 = x % 2 := by
      have := Nat.mod_two_eq_zero_or_one (x &&& y)
      have := Nat.mod_two_eq_zero_or_one x
      have := Nat.mod_two_eq_zero_or_one y
      omega
    omega
theorem off_zero {w : Str} {x y : Nat} : (if w = "under" then decide (x &&& y = x) else decide (x = y)) = decide (offI w x y = 0) := by
  unfold offI
  by_cases h : w = "under"
  · rw [if_pos h, if_pos h]
    refine decide_eq_decide.mpr ?_
    rw [Int.mul_eq_zero, or_self_iff]
    have := @Nat.and_le_left x y
    unfold stn
    omega
  · rw [if_neg h, if_neg h]
    refine decide_eq_decide.mpr ?_
    rw [Int.mul_eq_zero, or_self_iff]
    omega
theorem gap_ok {x y : Nat} {r s : Nat} (hx : x < 2 ^ r) (hr : r ≤ 1000000) (hy : y < 2 ^ s) (hs : s ≤ 1000000) : CM ((x : Int) - y) ((x : Int) - y) ∧ CM ((stn x y : Nat) : Int) ((stn x y : Nat) : Int) := by
  have h1 := stn_le x y
  refine ⟨.inr (mulx_ok (a := max r s) (b := max r s) ?_ ?_ (by omega)), .inr (mulx_ok (a := r) (b := r) ?_ ?_ (by omega))⟩
  · have e1 : 2 ^ r ≤ 2 ^ max r s := Nat.pow_le_pow_right (by decide) (by omega)
    have e2 : 2 ^ s ≤ 2 ^ max r s := Nat.pow_le_pow_right (by decide) (by omega)
    generalize 2 ^ max r s = A at *
    omega
  · have e1 : 2 ^ r ≤ 2 ^ max r s := Nat.pow_le_pow_right (by decide) (by omega)
    have e2 : 2 ^ s ≤ 2 ^ max r s := Nat.pow_le_pow_right (by decide) (by omega)
    generalize 2 ^ max r s = A at *
    omega
  · rw [Int.natAbs_natCast]; omega
  · rw [Int.natAbs_natCast]; omega
theorem stn_lt {x y n : Nat} (h : x < 2 ^ n) : stn x y < 2 ^ n := Nat.lt_of_le_of_lt (stn_le x y) h
theorem stn_more {s a b t T : Nat} (h : a + b * 2 ^ t = T) (e : b = 2 * s + 1) : a + 2 ^ t + s * 2 ^ (t + 1) = T := by
  rw [← h, e, Nat.pow_succ, Nat.add_mul, Nat.one_mul, Nat.mul_comm 2 s, Nat.mul_assoc s 2, Nat.mul_comm 2]
  omega
theorem stn_less {s a b t T : Nat} (h : a + b * 2 ^ t = T) (e : b = 2 * s + 0) : a + s * 2 ^ (t + 1) = T := by
  rw [← h, show b = s * 2 by omega, Nat.pow_succ, Nat.mul_assoc s 2, Nat.mul_comm 2]
theorem stn_cast {a t : Nat} : (a : Int) + 2 ^ (t : Int).toNat = ((a + 2 ^ t : Nat) : Int) := by
  rw [Int.toNat_natCast, Int.natCast_add, Int.natCast_pow]
  rfl

/-! bounds of what terms come to -/
def Bd (kvs : List (Key × V)) (g : Str → Nat) (n : Nat) (t : Tm) : Prop := TmOk kvs g t ∧ ev g t < 2 ^ n
theorem Bd.times {kvs : List (Key × V)} {g : Str → Nat} {n m : Nat} {a b : Tm} (ha : Bd kvs g n a) (hb : Bd kvs g m b) (n1 : 1 ≤ n) (h : n + m ≤ 1000000) : Bd kvs g (n + m) (.op "times" a b) :=
  ⟨⟨by decide, by decide, ha.1, hb.1, n, n1, ha.2, .inr (.inl ⟨rfl, m, hb.2, h⟩)⟩, by
    show ev g a * ev g b < _
    rw [Nat.pow_add]
    exact Nat.mul_lt_mul'' ha.2 hb.2⟩
theorem Bd.plus {kvs : List (Key × V)} {g : Str → Nat} {n : Nat} {a b : Tm} (ha : Bd kvs g n a) (hb : Bd kvs g n b) (n1 : 1 ≤ n) (h : n + 1 ≤ 1000000) : Bd kvs g (n + 1) (.op "plus" a b) :=
  ⟨⟨by decide, by decide, ha.1, hb.1, n, n1, ha.2, .inl ⟨rfl, hb.2, h⟩⟩, by
    show ev g a + ev g b < _
    have h1 := ha.2
    have h2 := hb.2
    rw [Nat.pow_succ]
    omega⟩
theorem Bd.up {kvs : List (Key × V)} {g : Str → Nat} {n m : Nat} {a : Tm} (ha : Bd kvs g n a) (h : n ≤ m) : Bd kvs g m a := ⟨ha.1, Nat.lt_of_lt_of_le ha.2 (Nat.pow_le_pow_right (by decide) h)⟩
theorem Bd.two {kvs : List (Key × V)} {g : Str → Nat} : Bd kvs g 2 (.num 2) := ⟨⟨2, by decide, by decide⟩, by show 2 < 2 ^ 2; decide⟩
/-- both sides of a saying -/
structure Pb (kvs : List (Key × V)) (g : Str → Nat) (n w : Nat) (ab : Tm × Tm) : Prop where
  b1 : Bd kvs g n ab.1
  b2 : Bd kvs g n ab.2
  w1 : ab.1.wt ≤ w
  w2 : ab.2.wt ≤ w
def eiT (a b : Tm × Tm) : Tm × Tm := (.op "plus" (.op "times" a.1 b.1) (.op "times" a.2 b.2), .op "plus" (.op "times" a.1 b.2) (.op "times" a.2 b.1))
theorem Pb.ei {kvs : List (Key × V)} {g : Str → Nat} {n w : Nat} {a b : Tm × Tm} (ha : Pb kvs g n w a) (hb : Pb kvs g n w b) (n1 : 1 ≤ n) (h : n + n + 1 ≤ 1000000) : Pb kvs g (n + n + 1) (4 * w + 6) (eiT a b) where
  b1 := (ha.b1.times hb.b1 n1 (by omega)).plus (ha.b2.times hb.b2 n1 (by omega)) (by omega) h
  b2 := (ha.b1.times hb.b2 n1 (by omega)).plus (ha.b2.times hb.b1 n1 (by omega)) (by omega) h
  w1 := by
    have h1 := ha.w1; have h2 := ha.w2; have h3 := hb.w1; have h4 := hb.w2
    show (a.1.wt + b.1.wt + 2) + (a.2.wt + b.2.wt + 2) + 2 ≤ _
    omega
  w2 := by
    have h1 := ha.w1; have h2 := ha.w2; have h3 := hb.w1; have h4 := hb.w2
    show (a.1.wt + b.2.wt + 2) + (a.2.wt + b.1.wt + 2) + 2 ≤ _
    omega
theorem Pb.one {kvs : List (Key × V)} {g : Str → Nat} {n w : Nat} {a b : Tm × Tm} (ha : Pb kvs g n w a) (hb : Pb kvs g n w b) (n1 : 1 ≤ n) (h : n + n + 4 ≤ 1000000) : Pb kvs g (n + n + 4) (8 * w + 20) (sumT [sqT a, sqT b], sumT [prT a, prT b]) where
  b1 := ((((ha.b1.times ha.b1 n1 (by omega)).plus (ha.b2.times ha.b2 n1 (by omega)) (by omega) (by omega)).plus ((hb.b1.times hb.b1 n1 (by omega)).plus (hb.b2.times hb.b2 n1 (by omega)) (by omega) (by omega)) (by omega) (by omega))).up (by omega)
  b2 := ((Bd.two.times (ha.b1.times ha.b2 n1 (by omega)) (by decide) (by omega)).plus (Bd.two.times (hb.b1.times hb.b2 n1 (by omega)) (by decide) (by omega)) (by omega) (by omega)).up (by omega)
  w1 := by
    have h1 := ha.w1; have h2 := ha.w2; have h3 := hb.w1; have h4 := hb.w2
    show ((a.1.wt + a.1.wt + 2) + (a.2.wt + a.2.wt + 2) + 2) + ((b.1.wt + b.1.wt + 2) + (b.2.wt + b.2.wt + 2) + 2) + 2 ≤ _
    omega
  w2 := by
    have h1 := ha.w1; have h2 := ha.w2; have h3 := hb.w1; have h4 := hb.w2
    show (1 + (a.1.wt + a.2.wt + 2) + 2) + (1 + (b.1.wt + b.2.wt + 2) + 2) + 2 ≤ _
    omega
def gapT (g : Str → Nat) (ab : Tm × Tm) : Int := ((ev g ab.1 : Nat) : Int) - ((ev g ab.2 : Nat) : Int)
theorem gap_ei {g : Str → Nat} (a b : Tm × Tm) : gapT g (eiT a b) = gapT g a * gapT g b := by
  show (((ev g a.1 * ev g b.1 + ev g a.2 * ev g b.2 : Nat) : Int) - ((ev g a.1 * ev g b.2 + ev g a.2 * ev g b.1 : Nat) : Int)) = (((ev g a.1 : Nat) : Int) - ((ev g a.2 : Nat) : Int)) * (((ev g b.1 : Nat) : Int) - ((ev g b.2 : Nat) : Int))
  rw [Int.natCast_add, Int.natCast_add, Int.natCast_mul, Int.natCast_mul, Int.natCast_mul, Int.natCast_mul, Int.sub_mul, Int.mul_sub, Int.mul_sub]
  omega
theorem gap_one {g : Str → Nat} (a b : Tm × Tm) : gapT g (sumT [sqT a, sqT b], sumT [prT a, prT b]) = gapT g a * gapT g a + gapT g b * gapT g b := by
  show ((((ev g a.1 * ev g a.1 + ev g a.2 * ev g a.2) + (ev g b.1 * ev g b.1 + ev g b.2 * ev g b.2) : Nat) : Int) - ((2 * (ev g a.1 * ev g a.2) + 2 * (ev g b.1 * ev g b.2) : Nat) : Int)) = (((ev g a.1 : Nat) : Int) - ((ev g a.2 : Nat) : Int)) * (((ev g a.1 : Nat) : Int) - ((ev g a.2 : Nat) : Int)) + (((ev g b.1 : Nat) : Int) - ((ev g b.2 : Nat) : Int)) * (((ev g b.1 : Nat) : Int) - ((ev g b.2 : Nat) : Int))
  generalize ev g a.1 = x
  generalize ev g a.2 = y
  generalize ev g b.1 = z
  generalize ev g b.2 = u
  have e1 : ((x : Int) - y) * ((x : Int) - y) = ((x * x : Nat) : Int) - 2 * ((x * y : Nat) : Int) + ((y * y : Nat) : Int) := by
    rw [Int.sub_mul, Int.mul_sub, Int.mul_sub, Int.natCast_mul, Int.natCast_mul, Int.natCast_mul, Int.mul_comm (y : Int) (x : Int)]
    omega
  have e2 : ((z : Int) - u) * ((z : Int) - u) = ((z * z : Nat) : Int) - 2 * ((z * u : Nat) : Int) + ((u * u : Nat) : Int) := by
    rw [Int.sub_mul, Int.mul_sub, Int.mul_sub, Int.natCast_mul, Int.natCast_mul, Int.natCast_mul, Int.mul_comm (u : Int) (z : Int)]
    omega
  rw [e1, e2]
  omega
theorem gap_bd {kvs : List (Key × V)} {g : Str → Nat} {n w : Nat} {a : Tm × Tm} (h : Pb kvs g n w a) : (gapT g a).natAbs < 2 ^ n := by
  have h1 := h.b1.2
  have h2 := h.b2.2
  unfold gapT
  omega
theorem abs_mul {a b : Int} {n m : Nat} (ha : a.natAbs < 2 ^ n) (hb : b.natAbs < 2 ^ m) : (a * b).natAbs < 2 ^ (n + m) := by
  rw [Int.natAbs_mul, Nat.pow_add]
  exact Nat.mul_lt_mul'' ha hb
theorem holds_same {g : Str → Nat} (a : Tm × Tm) : (if (Str.ofString "same") = "under" then decide (ev g a.1 &&& ev g a.2 = ev g a.1) else decide (ev g a.1 = ev g a.2)) = decide (gapT g a = 0) := by
  rw [if_neg (by decide +kernel)]
  refine decide_eq_decide.mpr ?_
  unfold gapT
  omega
theorem off_same {g : Str → Nat} (a : Tm × Tm) : offI "same" (ev g a.1) (ev g a.2) = gapT g a * gapT g a := by
  unfold offI
  rw [if_neg (by decide +kernel)]
  rfl
theorem sq_zero {x : Int} : x * x = 0 ↔ x = 0 := by
  rw [Int.mul_eq_zero]
  exact ⟨fun h => h.elim id id, fun h => .inl h⟩
theorem inV_ints {z : Int} : ∀ l : List Int, inV (.int z) (l.map V.int) = decide (z ∈ l)
  | [] => rfl
  | y :: l => by
    have h := inV_ints (z := z) l
    show ((y == z) || inV (.int z) (l.map V.int)) = _
    rw [h]
    by_cases e : y = z
    · subst e
      simp
    · have e1 : (y == z) = false := by simpa using e
      rw [e1, Bool.false_or]
      refine decide_eq_decide.mpr ?_
      rw [List.mem_cons]
      exact ⟨.inr, fun h => h.elim (fun q => absurd q.symm e) id⟩
theorem w_inI {K : PySem.W.Frag} {H : Hp} {Q : VK} {p : Addr} {z : Int} (l : List Int) (h : SqL K H p (l.map V.int)) (k : Q (.bl (decide (z ∈ l))) H) : rIn K false (.int z) (.ref p) H Q := ⟨p, _, rfl, .inl h, rfl, by
  rw [List.all_map]
  exact List.all_eq_true.mpr fun _ _ => rfl, by
  show Q (.bl (inV (.int z) (l.map V.int))) H
  rw [inV_ints]
  exact k⟩
/-- a saying as a tuple -/
def TrAt (K : PySem.W.Frag) (H : Hp) (v : V) (ab : Tm × Tm) : Prop := ∃ t l r, v = .ref t ∧ H t = some (.tup [.str "same", l, r]) ∧ TmAt K H ab.1 l ∧ TmAt K H ab.2 r
theorem TrAt.tk {K : PySem.W.Frag} {H H' : Hp} {v : V} {ab : Tm × Tm} (h : TrAt K H v ab) (e : Tk H H') : TrAt K H' v ab := by
  obtain ⟨t, l, r, rfl, a, b, c⟩ := h
  exact ⟨t, l, r, rfl, e _ _ a, b.tk e, c.tk e⟩
def TrsAt (K : PySem.W.Frag) (H : Hp) (vs : List V) (abs : List (Tm × Tm)) : Prop := Paired (TrAt K H) vs abs
theorem TrsAt.tk {K : PySem.W.Frag} {H H' : Hp} {vs : List V} {abs : List (Tm × Tm)} (h : TrsAt K H vs abs) (e : Tk H H') : TrsAt K H' vs abs := paired_mono (fun _ _ q => q.tk e) h
theorem SayT.kpL {K : PySem.W.Frag} {H H' : Hp} {v : V} {ab : Tm × Tm} {b : Addr} {ys : List V} (h : SayT K H v ab) (hb : H b = some (.lst ys)) (e : Kp b H H') : SayT K H' v ab := by
  obtain ⟨l, r, p, q, s⟩ := h
  exact ⟨l, r, p.kpL hb e, q.kpL hb e, s.kpL hb e⟩
def Pr73 (kvs : List (Key × V)) (g : Str → Nat) (ab : Tm × Tm) : Prop := Pb kvs g 6000 30 ab ∧ ab.1.dep ≤ 5 ∧ ab.2.dep ≤ 5
theorem Pb.up {kvs : List (Key × V)} {g : Str → Nat} {n m w u : Nat} {a : Tm × Tm} (h : Pb kvs g n w a) (hn : n ≤ m) (hw : w ≤ u) : Pb kvs g m u a := ⟨h.b1.up hn, h.b2.up hn, Nat.le_trans h.w1 hw, Nat.le_trans h.w2 hw⟩
theorem mem_sq2 (x y : Int) : (0 : Int) ∈ [x * x, y * y] ↔ x * y = 0 := by
  rw [List.mem_cons, List.mem_singleton, Int.mul_eq_zero, ← sq_zero (x := x), ← sq_zero (x := y)]
  exact ⟨fun h => h.imp Eq.symm Eq.symm, fun h => h.imp Eq.symm Eq.symm⟩
theorem mem_sq4 (x y z u : Int) : (0 : Int) ∈ [x * x, y * y, z * z, u * u] ↔ (x * y) * (z * u) = 0 := by
  rw [Int.mul_eq_zero, ← mem_sq2, ← mem_sq2]
  simp only [List.mem_cons, List.not_mem_nil, or_false, or_assoc]
theorem sq_sum {x y : Int} : x * x + y * y = 0 ↔ x = 0 ∧ y = 0 := by
  rw [← Int.natAbs_mul_self (a := x), ← Int.natAbs_mul_self (a := y)]
  constructor
  · intro h
    have h1 : x.natAbs * x.natAbs = 0 := by omega
    have h2 : y.natAbs * y.natAbs = 0 := by omega
    rcases Nat.mul_eq_zero.mp h1 with a | a <;> rcases Nat.mul_eq_zero.mp h2 with b | b <;> omega
  · rintro ⟨rfl, rfl⟩
    rfl
theorem cm_sq {kvs : List (Key × V)} {g : Str → Nat} {n w : Nat} {a b : Tm × Tm} (ha : Pb kvs g n w a) (hb : Pb kvs g n w b) (h : n + n + (n + n) ≤ 1000000) : CM (gapT g a * gapT g a) (gapT g b * gapT g b) :=
  .inr (mulx_ok (a := n + n) (b := n + n) (abs_mul (gap_bd ha) (gap_bd ha)) (abs_mul (gap_bd hb) (gap_bd hb)) (by omega))

/-! lists: slices by a number, pairs in step, sums -/
theorem cut_hi {xs : List V} {j : Int} (h0 : 0 ≤ j) : cutV xs none (some j) = xs.take j.toNat := by
  obtain ⟨k, rfl⟩ := Int.eq_ofNat_of_zero_le h0
  unfold cutV
  rw [HT.sIx_none, HT.sIx_nat, List.drop_zero, Nat.sub_zero, Int.toNat_natCast]
  rcases Nat.le_total k xs.length with h | h
  · rw [Nat.min_eq_left h]
  · rw [Nat.min_eq_right h, List.take_length, List.take_of_length_le h]
theorem cut_lo {xs : List V} {j : Int} (h0 : 0 ≤ j) : cutV xs (some j) none = xs.drop j.toNat := by
  obtain ⟨k, rfl⟩ := Int.eq_ofNat_of_zero_le h0
  unfold cutV
  rw [HT.sIx_none, HT.sIx_nat, Int.toNat_natCast]
  rcases Nat.le_total k xs.length with h | h
  · rw [Nat.min_eq_left h, List.take_of_length_le (by rw [List.length_drop]; exact Nat.le_refl _)]
  · rw [Nat.min_eq_right h, List.drop_length, List.take_nil, List.drop_of_length_le h]
theorem pr_of {α β : Type} {F : α → β → Prop} : ∀ {xs : List α}, (∀ x ∈ xs, ∃ y, F x y) → ∃ ys, Paired F xs ys
  | [], _ => ⟨[], .nil⟩
  | x :: xs, h => by
    obtain ⟨y, hy⟩ := h x List.mem_cons_self
    obtain ⟨ys, hys⟩ := pr_of (xs := xs) fun z hz => h z (List.mem_cons_of_mem _ hz)
    exact ⟨y :: ys, .cons hy hys⟩
theorem pr_take {α β : Type} {F : α → β → Prop} : ∀ {xs : List α} {ys : List β} (n : Nat), Paired F xs ys → Paired F (xs.take n) (ys.take n)
  | _, _, 0, _ => by
    rw [List.take_zero, List.take_zero]
    exact .nil
  | _, _, n + 1, .nil => .nil
  | _, _, n + 1, .cons a b => .cons a (pr_take n b)
theorem pr_drop {α β : Type} {F : α → β → Prop} : ∀ {xs : List α} {ys : List β} (n : Nat), Paired F xs ys → Paired F (xs.drop n) (ys.drop n)
  | _, _, 0, h => h
  | _, _, n + 1, .nil => .nil
  | _, _, n + 1, .cons a b => pr_drop n b
theorem pr_rev {α β : Type} {F : α → β → Prop} : ∀ {xs : List α} {ys : List β}, Paired F xs ys → Paired F xs.reverse ys.reverse
  | _, _, .nil => .nil
  | _, _, .cons a b => by
    rw [List.reverse_cons, List.reverse_cons]
    exact (pr_rev b).snoc a
theorem sum_app : ∀ (a b : List Int), (a ++ b).sum = a.sum + b.sum
  | [], b => by rw [List.nil_append, List.sum_nil, Int.zero_add]
  | x :: a, b => by rw [List.cons_append, List.sum_cons, List.sum_cons, sum_app a b, Int.add_assoc]
theorem sum_rev : ∀ a : List Int, a.reverse.sum = a.sum
  | [] => rfl
  | x :: a => by rw [List.reverse_cons, sum_app, sum_rev a, List.sum_cons, List.sum_cons, List.sum_nil, Int.add_zero, Int.add_comm]
theorem sum_cut (a : List Int) (n : Nat) : (a.take n).sum + (a.drop n).sum = a.sum := by
  rw [← sum_app, List.take_append_drop]
theorem w_repL {H : Hp} {Q : VK} {l : Addr} {xs : List V} {j : Int} (h : H l = some (.lst xs)) (h0 : 0 ≤ j) (h1 : j ≤ 1000) (z : xs.length ≤ 100) (k : ∀ p H', H p = none → Sm H H' → H' p = some (.lst (List.replicate j.toNat xs).flatten) → Q (.ref p) H') : gMul (.ref l) (.int j) H Q :=
  .inr (.inr ⟨l, j, _, rfl, rfl, h, by omega, by omega, sz_of (by
    have := Nat.mul_le_mul z (show j.toNat ≤ 1000 by omega)
    omega), fun p hp => k p _ hp (sm_new hp) upd_same⟩)
theorem mem_rep {xs : List V} {n : Nat} {x : V} (h : x ∈ (List.replicate n xs).flatten) : x ∈ xs := by
  obtain ⟨l, hl, hx⟩ := List.mem_flatten.mp h
  rw [(List.mem_replicate.mp hl).2] at hx
  exact hx
theorem rep_pos {xs : List V} {n : Nat} (hn : 0 < n) (h : 0 < xs.length) : 0 < (List.replicate n xs).flatten.length := by
  obtain ⟨x, hx⟩ := List.exists_mem_of_length_pos h
  exact List.length_pos_of_mem (List.mem_flatten.mpr ⟨xs, List.mem_replicate.mpr ⟨by omega, rfl⟩, hx⟩)
/-! both ways of an if lead to one place -/
theorem w_ifJ {t : TT} {A B : TS} {n0 c d : L2.St → Hp → Prop} {r : VK} {σ : L2.St} {H : Hp} (J : L2.St → Hp → Prop) (key : ∀ σ' H', J σ' H' → NX (En n0 r c d) σ' H') (body : ∀ n : L2.St → Hp → Prop, (∀ σ' H', J σ' H' → n σ' H') → tIfS t A B (En n r c d) σ H) : tIfS t A B (En n0 r c d) σ H := body n0 key

/-! what drawn terms come to is never too great -/
theorem tmp_wt {ys : List Str} : ∀ {d : Nat} {t : Tm}, TmP ys d t → t.wt + 2 ≤ 3 * 2 ^ d
  | d, _, .num _ => by
    have := Nat.two_pow_pos d
    show 1 + 2 ≤ _
    omega
  | d, _, .name _ => by
    have := Nat.two_pow_pos d
    show 1 + 2 ≤ _
    omega
  | d + 1, _, .plus (a := a) (b := b) h1 h2 => by
    have e1 := tmp_wt h1
    have e2 := tmp_wt h2
    rw [Nat.pow_succ]
    show a.wt + b.wt + 2 + 2 ≤ _
    omega
  | d + 1, _, .times (a := a) (b := b) h1 h2 => by
    have e1 := tmp_wt h1
    have e2 := tmp_wt h2
    rw [Nat.pow_succ]
    show a.wt + b.wt + 2 + 2 ≤ _
    omega
  | d + 1, _, .power (a := a) h1 _ => by
    have e1 := tmp_wt h1
    have := Nat.two_pow_pos d
    rw [Nat.pow_succ]
    show a.wt + 1 + 2 + 2 ≤ _
    omega
theorem tmp_dep {ys : List Str} : ∀ {d : Nat} {t : Tm}, TmP ys d t → t.dep ≤ d
  | _, _, .num _ => Nat.zero_le _
  | _, _, .name _ => Nat.zero_le _
  | d + 1, _, .plus (a := a) (b := b) h1 h2 => by
    have e1 := tmp_dep h1
    have e2 := tmp_dep h2
    show max a.dep b.dep + 1 ≤ _
    omega
  | d + 1, _, .times (a := a) (b := b) h1 h2 => by
    have e1 := tmp_dep h1
    have e2 := tmp_dep h2
    show max a.dep b.dep + 1 ≤ _
    omega
  | d + 1, _, .power (a := a) h1 _ => by
    have e1 := tmp_dep h1
    show max a.dep 0 + 1 ≤ _
    omega
def bt5 (B : Nat) : Nat → Nat
  | 0 => B
  | d + 1 => 5 * bt5 B d
theorem bt5_ge (B : Nat) : ∀ d, B ≤ bt5 B d
  | 0 => Nat.le_refl _
  | d + 1 => by
    have := bt5_ge B d
    show B ≤ 5 * bt5 B d
    omega
theorem tmp_ok {ys : List Str} {kvs : List (Key × V)} {g : Str → Nat} {B : Nat} (hB : 10 ≤ B) (hg : ∀ y ∈ ys, valV kvs (.inr y) = some (.int (g y : Nat)) ∧ g y < 2 ^ B) :
    ∀ {d : Nat} {t : Tm}, TmP ys d t → bt5 B d ≤ 1000000 → TmOk kvs g t ∧ ev g t < 2 ^ bt5 B d
  | d, _, .num (n := n) h, hl => by
    have e := bt5_ge B d
    have h1 : n < 2 ^ bt5 B d := Nat.lt_of_lt_of_le h (Nat.le_trans (show 1000 ≤ 2 ^ 10 by decide) (Nat.pow_le_pow_right (by decide) (by omega)))
    exact ⟨⟨_, h1, hl⟩, h1⟩
  | d, _, .name (s := s) h, hl => by
    obtain ⟨h1, h2⟩ := hg s h
    have h3 : g s < 2 ^ bt5 B d := Nat.lt_of_lt_of_le h2 (Nat.pow_le_pow_right (by decide) (bt5_ge B d))
    exact ⟨⟨h1, _, h3, hl⟩, h3⟩
  | d + 1, _, .plus (a := a) (b := b) h1 h2, hl => by
    have hl : 5 * bt5 B d ≤ 1000000 := hl
    have e := bt5_ge B d
    obtain ⟨o1, l1⟩ := tmp_ok hB hg h1 (by omega)
    obtain ⟨o2, l2⟩ := tmp_ok hB hg h2 (by omega)
    refine ⟨⟨by decide, by decide, o1, o2, bt5 B d, by omega, l1, .inl ⟨rfl, l2, by omega⟩⟩, ?_⟩
    show ev g a + ev g b < 2 ^ (5 * bt5 B d)
    have h3 : 2 ^ (bt5 B d + 1) ≤ 2 ^ (5 * bt5 B d) := Nat.pow_le_pow_right (by decide) (by omega)
    rw [Nat.pow_succ] at h3
    omega
  | d + 1, _, .times (a := a) (b := b) h1 h2, hl => by
    have hl : 5 * bt5 B d ≤ 1000000 := hl
    have e := bt5_ge B d
    obtain ⟨o1, l1⟩ := tmp_ok hB hg h1 (by omega)
    obtain ⟨o2, l2⟩ := tmp_ok hB hg h2 (by omega)
    refine ⟨⟨by decide, by decide, o1, o2, bt5 B d, by omega, l1, .inr (.inl ⟨rfl, bt5 B d, l2, by omega⟩)⟩, ?_⟩
    show ev g a * ev g b < 2 ^ (5 * bt5 B d)
    have h3 : 2 ^ (bt5 B d + bt5 B d) ≤ 2 ^ (5 * bt5 B d) := Nat.pow_le_pow_right (by decide) (by omega)
    rw [Nat.pow_add] at h3
    exact Nat.lt_of_lt_of_le (Nat.mul_lt_mul'' l1 l2) h3
  | d + 1, _, .power (a := a) (n := n) h1 hn, hl => by
    have hl : 5 * bt5 B d ≤ 1000000 := hl
    have e := bt5_ge B d
    obtain ⟨o1, l1⟩ := tmp_ok hB hg h1 (by omega)
    have hbn : bt5 B d * n ≤ bt5 B d * 4 := Nat.mul_le_mul_left _ (by omega)
    refine ⟨⟨by decide, by decide, o1, ⟨3, by omega, by omega⟩, bt5 B d, by omega, l1, .inr (.inr ⟨by decide, by decide, pw_of l1 (by omega) (show bt5 B d * n ≤ 1000000 by omega)⟩)⟩, ?_⟩
    show ev g a ^ n < 2 ^ (5 * bt5 B d)
    have h2 : ev g a ^ n ≤ 2 ^ (bt5 B d * n) := by
      rw [Nat.pow_mul]
      exact Nat.pow_le_pow_left (Nat.le_of_lt l1) n
    have h3 : 2 ^ (bt5 B d * n) < 2 ^ (5 * bt5 B d) := Nat.pow_lt_pow_right (by decide) (by omega)
    omega
/-- of these names, whatever numbers they have, if these aren't great -/
def TmF (ys : List Str) (t : Tm) : Prop := t.wt ≤ 30 ∧ t.dep ≤ 5 ∧ ∀ (kvs : List (Key × V)) (g : Str → Nat), (∀ y ∈ ys, valV kvs (.inr y) = some (.int (g y : Nat)) ∧ g y < 2 ^ 41) → TmOk kvs g t ∧ ev g t < 2 ^ 6000
theorem tmp_tmf {ys : List Str} {t : Tm} (h : TmP ys 3 t) : TmF ys t := by
  refine ⟨?_, Nat.le_trans (tmp_dep h) (by decide), fun kvs g hg => ?_⟩
  · have := tmp_wt h
    have e : 3 * 2 ^ 3 = 24 := by decide
    omega
  · have e : bt5 41 3 = 5125 := by decide
    obtain ⟨o, l⟩ := tmp_ok (B := 41) (by decide) hg h (by rw [e]; decide)
    rw [e] at l
    exact ⟨o, Nat.lt_trans l (Nat.pow_lt_pow_right (by decide) (by decide))⟩
theorem tmf_num {ys : List Str} {n : Nat} (h : n < 2 ^ 1000) : TmF ys (.num n) := ⟨by show 1 ≤ 30; decide, by show 0 ≤ 5; decide, fun kvs g _ => ⟨⟨1000, h, by decide⟩, Nat.lt_trans h (Nat.pow_lt_pow_right (by decide) (by decide))⟩⟩
theorem tmf_more {ys : List Str} {t : Tm} (h : TmP ys 3 t) : TmF ys (.op "plus" t (.num 0)) := by
  obtain ⟨h1, h2, h3⟩ := tmp_tmf h
  have e1 := tmp_wt h
  have e2 := tmp_dep h
  refine ⟨?_, ?_, fun kvs g hg => ?_⟩
  · have e : 3 * 2 ^ 3 = 24 := by decide
    show t.wt + 1 + 2 ≤ 30
    omega
  · show max t.dep 0 + 1 ≤ 5
    omega
  · obtain ⟨o, l⟩ := h3 kvs g hg
    exact ⟨⟨by decide, by decide, o, ⟨1, by show 0 < 2 ^ 1; decide, by decide⟩, 6000, by decide, l, .inl ⟨rfl, Nat.two_pow_pos _, by decide⟩⟩, l⟩

/-! drawn terms as data (behind _law_term) -/
theorem low_ok {s : Str} (hs : Low s) : PyData.strOk s = true := by
  unfold PyData.strOk
  rw [← Array.all_toList, List.all_eq_true]
  intro c hc
  have := hs c hc
  exact decide_eq_true (by omega)
theorem tmp_X {ys : List Str} (hy : ∀ y ∈ ys, y.length ≤ 20 ∧ Low y) : ∀ {d : Nat} {t : Tm}, TmP ys d t → TmX t
  | _, _, .num (n := n) h => by
    show n < 10 ^ 12
    have : (10 : Nat) ^ 12 = 1000000000000 := by decide
    omega
  | _, _, .name h => ⟨low_ok (hy _ h).2, (hy _ h).1⟩
  | _, _, .plus h1 h2 => ⟨⟨by decide +kernel, by decide⟩, tmp_X hy h1, tmp_X hy h2⟩
  | _, _, .times h1 h2 => ⟨⟨by decide +kernel, by decide⟩, tmp_X hy h1, tmp_X hy h2⟩
  | _, _, .power (n := n) h1 h2 => ⟨⟨by decide +kernel, by decide⟩, tmp_X hy h1, by
    show n < 10 ^ 12
    have : (10 : Nat) ^ 12 = 1000000000000 := by decide
    omega⟩
theorem tmp_D69 {ys : List Str} {s t : Tm} (hy : ∀ y ∈ ys, y.length ≤ 20 ∧ Low y) (h1 : TmP ys 3 s) (h2 : TmP ys 3 t) : D69 (s, t) := by
  have e : 3 * 2 ^ 3 = 24 := by decide
  have a1 := tmp_wt h1
  have a2 := tmp_wt h2
  exact ⟨tmp_X hy h1, tmp_X hy h2, tmp_dep h1, tmp_dep h2, by show s.wt ≤ 30; omega, by show t.wt ≤ 30; omega⟩

theorem tmp_N {ys : List Str} : ∀ {d : Nat} {t : Tm}, TmP ys d t → TmN t
  | _, _, .num _ => trivial
  | _, _, .name _ => trivial
  | _, _, .plus h1 h2 => ⟨by decide, by decide, tmp_N h1, tmp_N h2⟩
  | _, _, .times h1 h2 => ⟨by decide, by decide, tmp_N h1, tmp_N h2⟩
  | _, _, .power h1 _ => ⟨by decide, by decide, tmp_N h1, trivial⟩
/-- tuples and dicts stay -/
def Td (H H' : Hp) : Prop := Tk H H' ∧ ∀ p kvs, H p = some (.dK kvs) → H' p = some (.dK kvs)
theorem Td.sm {H H' : Hp} (e : Sm H H') : Td H H' := ⟨Tk.sm e, fun _ _ h => e _ _ h⟩
theorem Td.kp {H H' : Hp} {b : Addr} {ys : List V} (hb : H b = some (.lst ys)) (e : Kp b H H') : Td H H' := ⟨Tk.kp hb e, fun p _ q => e _ _ (by rintro rfl; rw [hb] at q; cases q) q⟩
theorem Td.kb {H H' : Hp} {b : Addr} (hb : BoxAt H b) (e : Kp b H H') : Td H H' := by
  obtain ⟨x, y, g, _⟩ := hb
  exact Td.kp g e
theorem Td.trans {H H1 H2 : Hp} (a : Td H H1) (b : Td H1 H2) : Td H H2 := ⟨a.1.trans b.1, fun p k h => b.2 p k (a.2 p k h)⟩
structure S67 (K : PySem.W.Frag) (H : Hp) (p : Addr) (wd : Str) (l r : V) (a b : Tm) : Prop where
  hp : H p = some (.tup [.str wd, l, r])
  ta : TmAt K H a l
  tb : TmAt K H b r
  hw : wd = "same" ∨ wd = "under"
  na : TmN a
  nb : TmN b
  xa : TmX a
  xb : TmX b
  da : a.dep ≤ 5
  db : b.dep ≤ 5
  wa : a.wt ≤ 200
  wb : b.wt ≤ 200
theorem S67.td {K : PySem.W.Frag} {H H' : Hp} {p : Addr} {wd : Str} {l r : V} {a b : Tm} (h : S67 K H p wd l r a b) (e : Td H H') : S67 K H' p wd l r a b :=
  ⟨e.1 _ _ h.hp, h.ta.tk e.1, h.tb.tk e.1, h.hw, h.na, h.nb, h.xa, h.xb, h.da, h.db, h.wa, h.wb⟩
def E67 (K : PySem.W.Frag) (H : Hp) (x : V) : Prop := ∃ t p d wd l r a b kvs, x = .ref t ∧ H t = some (.tup [.ref p, .ref d]) ∧ S67 K H p wd l r a b ∧ H d = some (.dK kvs) ∧ TxD kvs ∧ kvs.length ≤ 10
theorem E67.td {K : PySem.W.Frag} {H H' : Hp} {x : V} (h : E67 K H x) (e : Td H H') : E67 K H' x := by
  obtain ⟨t, p, d, wd, l, r, a, b, kvs, rfl, h1, h2, h3, h4⟩ := h
  exact ⟨t, p, d, wd, l, r, a, b, kvs, rfl, e.1 _ _ h1, h2.td e, e.2 _ _ h3, h4⟩
def sp_f_law_box (K : PySem.W.Frag) : Sp := fun vs H Q E => ∃ (a : Addr) (ns : List Int) (i : Int), vs = [.ref a, .int i] ∧ SqL K H a (ns.map V.int) ∧ 0 ≤ i ∧ i ≤ 100000 ∧ ∀ b H', H b = none → Sm H H' → BoxAt H' b → Q (.ref b) H'
theorem call_box {K : PySem.W.Frag} {H : Hp} {Q : VK} {E : XK} {a : Addr} {ns : List Int} {i : Int} (hS : SqL K H a (ns.map V.int)) (h0 : 0 ≤ i) (h1 : i ≤ 100000) (k : ∀ b H', H b = none → Sm H H' → BoxAt H' b → Q (.ref b) H') : sp_f_law_box K [.ref a, .int i] H Q E := ⟨a, ns, i, rfl, hS, h0, h1, k⟩
local macro_rules | `(tactic| tm_at "rs") => `(tactic| ((with_reducible refine' call_box ?h ?i ?j (fun _ _ _ _ _ => ?k)); (case h => tm_at "rsq"); (case i => omega); (case j => omega)))
def sp_f_law_take (K : PySem.W.Frag) : Sp := fun vs H Q E => ∃ (b : Addr) (w : Int), vs = [.ref b, .int w] ∧ BoxAt H b ∧ Wd w ∧ ∀ d H', 0 ≤ d → d < w → Kp b H H' → BoxAt H' b → Q (.int d) H'
theorem call_take {K : PySem.W.Frag} {H : Hp} {Q : VK} {E : XK} {b : Addr} {w : Int} (hb : BoxAt H b) (hw : Wd w) (k : ∀ d H', 0 ≤ d → d < w → Kp b H H' → BoxAt H' b → Q (.int d) H') : sp_f_law_take K [.ref b, .int w] H Q E := ⟨b, w, rfl, hb, hw, k⟩
local macro_rules | `(tactic| tm_at "rwd") => `(tactic| first | assumption | (apply wd_of <;> omega) | exact ⟨by decide, by decide +kernel⟩ | ((refine' wd_two ?wa ?wb); (case wa => with_reducible assumption); (case wb => omega)) | solve_by_elim | fail "no")
local macro_rules | `(tactic| tm_at "rs") => `(tactic| ((with_reducible refine call_take ?h ?w (fun _ _ _ _ _ _ => ?_)); (case h => tm_at "rbx"); (case w => tm_at "rwd")))
def sp_f_law_pool (K : PySem.W.Frag) : Sp := fun vs H Q E => ∃ (b : Addr) (m : Int), vs = [.ref b, .int m] ∧ BoxAt H b ∧ 0 ≤ m ∧ m ≤ 20 ∧ ∀ (p : Addr) (ys : List Str) (H' : Hp), H p = none → PoolAt H' p ys → ys.length = m.toNat → Kp b H H' → BoxAt H' b → Q (.ref p) H'
theorem call_pool {K : PySem.W.Frag} {H : Hp} {Q : VK} {E : XK} {b : Addr} {m : Int} (hB : BoxAt H b) (m0 : 0 ≤ m) (m1 : m ≤ 20) (k : ∀ (p : Addr) (ys : List Str) (H' : Hp), H p = none → PoolAt H' p ys → ys.length = m.toNat → Kp b H H' → BoxAt H' b → Q (.ref p) H') : sp_f_law_pool K [.ref b, .int m] H Q E := ⟨b, m, rfl, hB, m0, m1, k⟩
local macro_rules | `(tactic| tm_at "rs") => `(tactic| ((with_reducible refine call_pool ?h ?i ?j (fun _ _ _ _ _ _ _ _ => ?_)); (case h => tm_at "rbx"); (case i => omega); (case j => omega)))
def spR_f_law_term (K : PySem.W.Frag) : Nat → Sp
  | 0 => fun _ _ _ _ => False
  | m + 1 => fun vs H Q E => ∃ (b p : Addr) (ys : List Str) (d : Int), vs = [.ref b, .ref p, .int d] ∧ BoxAt H b ∧ PoolAt H p ys ∧ p ≠ b ∧ 1 ≤ ys.length ∧ ys.length ≤ 20 ∧ d ≤ (m : Int) ∧ ∀ (v : V) (t : Tm) (H' : Hp), TmAt K H' t v → TmP ys d.toNat t → Kp b H H' → BoxAt H' b → Q v H'
abbrev sp_f_law_term (K : PySem.W.Frag) : Sp := spR_f_law_term K 5
theorem call_term {K : PySem.W.Frag} {n : Nat} {H : Hp} {Q : VK} {E : XK} {b p : Addr} {ys : List Str} {d : Int} (hB : BoxAt H b) (hP : PoolAt H p ys) (hpb : p ≠ b) (hy1 : 1 ≤ ys.length) (hy2 : ys.length ≤ 20) (hdm : d ≤ (n : Int)) (k : ∀ (v : V) (t : Tm) (H' : Hp), TmAt K H' t v → TmP ys d.toNat t → Kp b H H' → BoxAt H' b → Q v H') : spR_f_law_term K (n + 1) [.ref b, .ref p, .int d] H Q E := ⟨b, p, ys, d, rfl, hB, hP, hpb, hy1, hy2, hdm, k⟩
def sp_f_Saying__init (K : PySem.W.Frag) : Sp := fun vs H Q E => ∃ (p C dx : Addr) (w : Str) (l r : V), vs = [.ref p, .str w, l, r] ∧ H p = some (.ins C dx []) ∧ SayC K C ∧ (w = "same" ∨ w = "under") ∧ ∀ H', Kp p H H' → H' p = some (.ins C dx [("word", .str w), ("left", l), ("right", r)]) → Q .non H'
theorem mk_say {K : PySem.W.Frag} {H : Hp} {Q : VK} {E : XK} {C : Addr} {w : Str} {l r : V} (hC : SayC K C) (hw : w = "same" ∨ w = "under") (k : ∀ p H', H p = none → Sm H H' → SayAt K H' (.ref p) w l r → Q (.ref p) H') : MkE C (sp_f_Saying__init K) Q E [.str w, l, r] H := fun x dx hx hd ne => ⟨x, C, dx, w, l, r, rfl, upd_same, hC, hw, fun H' kp g => ⟨rfl, k x H' hx (fun a o h => kp a o (ne_of_none h hx) (by rw [upd_ne (ne_of_none h hx), upd_ne (ne_of_none h hd)]; exact h)) ⟨x, C, dx, rfl, hC, g⟩⟩⟩
def spR_f_led (K : PySem.W.Frag) : Nat → Sp
  | 0 => fun _ _ _ _ => False
  | m + 1 => fun vs H Q E => ∃ (v : V) (d : Addr) (t : Tm) (kvs : List (Key × V)), vs = [v, .ref d] ∧ TmAt K H t v ∧ H d = some (.dK kvs) ∧ TxD kvs ∧ TmN t ∧ t.dep ≤ m ∧ ∀ v' H', Sm H H' → TmAt K H' (t.led kvs) v' → Q v' H'
abbrev sp_f_led (K : PySem.W.Frag) : Sp := spR_f_led K 6
theorem call_led {K : PySem.W.Frag} {n : Nat} {H : Hp} {Q : VK} {E : XK} {v : V} {d : Addr} {t : Tm} {kvs : List (Key × V)} (hv : TmAt K H t v) (hd : H d = some (.dK kvs)) (hx : TxD kvs) (hn : TmN t) (hm : t.dep ≤ n) (k : ∀ v' H', Sm H H' → TmAt K H' (t.led kvs) v' → Q v' H') : spR_f_led K (n + 1) [v, .ref d] H Q E := ⟨v, d, t, kvs, rfl, hv, hd, hx, hn, hm, k⟩
def sp_f_renamed (K : PySem.W.Frag) : Sp := fun vs H Q E => ∃ (v : V) (d : Addr) (w : Str) (l r : V) (a b : Tm) (kvs : List (Key × V)), vs = [v, .ref d] ∧ SayAt K H v w l r ∧ TmAt K H a l ∧ TmAt K H b r ∧ (w = "same" ∨ w = "under") ∧ H d = some (.dK kvs) ∧ TxD kvs ∧ TmN a ∧ TmN b ∧ a.dep ≤ 5 ∧ b.dep ≤ 5 ∧ ∀ q l' r' H', Sm H H' → SayAt K H' q w l' r' → TmAt K H' (a.led kvs) l' → TmAt K H' (b.led kvs) r' → Q q H'
theorem call_renamed {K : PySem.W.Frag} {H : Hp} {Q : VK} {E : XK} {v : V} {d : Addr} {w : Str} {l r : V} {a b : Tm} {kvs : List (Key × V)} (hv : SayAt K H v w l r) (ha : TmAt K H a l) (hb : TmAt K H b r) (hw : w = "same" ∨ w = "under") (hd : H d = some (.dK kvs)) (hx : TxD kvs) (na : TmN a) (nb : TmN b) (da : a.dep ≤ 5) (db : b.dep ≤ 5) (k : ∀ q l' r' H', Sm H H' → SayAt K H' q w l' r' → TmAt K H' (a.led kvs) l' → TmAt K H' (b.led kvs) r' → Q q H') : sp_f_renamed K [v, .ref d] H Q E := ⟨v, d, w, l, r, a, b, kvs, rfl, hv, ha, hb, hw, hd, hx, na, nb, da, db, k⟩
def spR_f_law_led (K : PySem.W.Frag) : Nat → Sp
  | 0 => fun _ _ _ _ => False
  | m + 1 => fun vs H Q E => ∃ (v : V) (d : Addr) (t : Tm) (kvs : List (Key × V)), vs = [v, .ref d] ∧ TmAt K H t v ∧ H d = some (.dK kvs) ∧ TxD kvs ∧ TmN t ∧ t.dep ≤ m ∧ ∀ v' H', Sm H H' → TmAt K H' (t.led kvs) v' → Q v' H'
abbrev sp_f_law_led (K : PySem.W.Frag) : Sp := spR_f_law_led K 6
theorem call_lawLed {K : PySem.W.Frag} {n : Nat} {H : Hp} {Q : VK} {E : XK} {v : V} {d : Addr} {t : Tm} {kvs : List (Key × V)} (hv : TmAt K H t v) (hd : H d = some (.dK kvs)) (hx : TxD kvs) (hn : TmN t) (hm : t.dep ≤ n) (k : ∀ v' H', Sm H H' → TmAt K H' (t.led kvs) v' → Q v' H') : spR_f_law_led K (n + 1) [v, .ref d] H Q E := ⟨v, d, t, kvs, rfl, hv, hd, hx, hn, hm, k⟩
def sp_f_Saying__eq (K : PySem.W.Frag) : Sp := fun vs H Q E => ∃ (a b : Addr) (w : Str) (l1 r1 l2 r2 : V) (x y : Tm), vs = [.ref a, .ref b] ∧ SayAt K H (.ref a) w l1 r1 ∧ SayAt K H (.ref b) w l2 r2 ∧ TmAt K H x l1 ∧ TmAt K H y r1 ∧ TmAt K H x l2 ∧ TmAt K H y r2 ∧ TmL (.op w x y) ∧ x.dep ≤ 2900 ∧ y.dep ≤ 2900 ∧ ∀ H', Sm H H' → Q (.bl true) H'
theorem call_sayEq {K : PySem.W.Frag} {H : Hp} {Q : VK} {E : XK} {a b : Addr} {w : Str} {l1 r1 l2 r2 : V} {x y : Tm} (ha : SayAt K H (.ref a) w l1 r1) (hb : SayAt K H (.ref b) w l2 r2) (x1 : TmAt K H x l1) (y1 : TmAt K H y r1) (x2 : TmAt K H x l2) (y2 : TmAt K H y r2) (lw : TmL (.op w x y)) (d1 : x.dep ≤ 2900) (d2 : y.dep ≤ 2900) (k : ∀ H', Sm H H' → Q (.bl true) H') : sp_f_Saying__eq K [.ref a, .ref b] H Q E := ⟨a, b, w, l1, r1, l2, r2, x, y, rfl, ha, hb, x1, y1, x2, y2, lw, d1, d2, k⟩
theorem eq_say {K : PySem.W.Frag} {H : Hp} {Q : VK} {E : XK} {C a b : Addr} {w : Str} {l1 r1 l2 r2 : V} {x y : Tm} (hC : SayC K C) (ha : SayAt K H (.ref a) w l1 r1) (hb : SayAt K H (.ref b) w l2 r2) (x1 : TmAt K H x l1) (y1 : TmAt K H y r1) (x2 : TmAt K H x l2) (y2 : TmAt K H y r2) (lw : TmL (.op w x y)) (d1 : x.dep ≤ 2900) (d2 : y.dep ≤ 2900) (k : ∀ H', Sm H H' → Q (.bl true) H') : rEqO C (sp_f_Saying__eq K) E (.ref a) (.ref b) H Q := by
  obtain ⟨p1, C1, dx1, e1, c1, g1⟩ := id ha
  obtain ⟨p2, C2, dx2, e2, c2, g2⟩ := id hb
  cases e1
  cases e2
  obtain rfl := sayc_eq c1 hC
  obtain rfl := sayc_eq c2 hC
  exact w_eqO g1 g2 (call_sayEq ha hb x1 y1 x2 y2 lw d1 d2 k)
theorem ne_say {K : PySem.W.Frag} {H : Hp} {Q : VK} {E : XK} {C a b : Addr} {w : Str} {l1 r1 l2 r2 : V} {x y : Tm} (hC : SayC K C) (ha : SayAt K H (.ref a) w l1 r1) (hb : SayAt K H (.ref b) w l2 r2) (x1 : TmAt K H x l1) (y1 : TmAt K H y r1) (x2 : TmAt K H x l2) (y2 : TmAt K H y r2) (lw : TmL (.op w x y)) (d1 : x.dep ≤ 2900) (d2 : y.dep ≤ 2900) (k : ∀ H', Sm H H' → Q (.bl false) H') : rNeO C (sp_f_Saying__eq K) E (.ref a) (.ref b) H Q := by
  obtain ⟨p1, C1, dx1, e1, c1, g1⟩ := id ha
  obtain ⟨p2, C2, dx2, e2, c2, g2⟩ := id hb
  cases e1
  cases e2
  obtain rfl := sayc_eq c1 hC
  obtain rfl := sayc_eq c2 hC
  exact w_neO g1 g2 (call_sayEq ha hb x1 y1 x2 y2 lw d1 d2 fun H' s => ⟨_, rfl, k H' s⟩)
def sp_f_law_right (K : PySem.W.Frag) : Sp := fun vs H Q E => ∃ (p d : Addr) (w : Str) (l r : V) (a b : Tm) (kvs : List (Key × V)), vs = [.ref p, .ref d] ∧ H p = some (.tup [.str w, l, r]) ∧ TmAt K H a l ∧ TmAt K H b r ∧ (w = "same" ∨ w = "under") ∧ H d = some (.dK kvs) ∧ TxD kvs ∧ kvs.length ≤ 10 ∧ TmN a ∧ TmN b ∧ TmX a ∧ TmX b ∧ a.dep ≤ 5 ∧ b.dep ≤ 5 ∧ a.wt ≤ 200 ∧ b.wt ≤ 200 ∧ ∀ H', Sm H H' → Q (.bl true) H'
theorem call_right67 {K : PySem.W.Frag} {H : Hp} {Q : VK} {E : XK} {p d : Addr} {w : Str} {l r : V} {a b : Tm} {kvs : List (Key × V)} (hp : H p = some (.tup [.str w, l, r])) (ha : TmAt K H a l) (hb : TmAt K H b r) (hw : w = "same" ∨ w = "under") (hd : H d = some (.dK kvs)) (hx : TxD kvs) (hxl : kvs.length ≤ 10) (na : TmN a) (nb : TmN b) (xa : TmX a) (xb : TmX b) (da : a.dep ≤ 5) (db : b.dep ≤ 5) (wa : a.wt ≤ 200) (wb : b.wt ≤ 200) (k : ∀ H', Sm H H' → Q (.bl true) H') : sp_f_law_right K [.ref p, .ref d] H Q E := ⟨p, d, w, l, r, a, b, kvs, rfl, hp, ha, hb, hw, hd, hx, hxl, na, nb, xa, xb, da, db, wa, wb, k⟩
def sp_f_law_dict (K : PySem.W.Frag) : Sp := fun vs H Q E => ∃ (b p : Addr) (ys : List Str), vs = [.ref b, .ref p] ∧ BoxAt H b ∧ PoolAt H p ys ∧ p ≠ b ∧ ys.length = 10 ∧ ∀ (d : Addr) (kvs : List (Key × V)) (H' : Hp), H d = none → H' d = some (.dK kvs) → TxD kvs → kvs.length ≤ 10 → Kp b H H' → BoxAt H' b → Q (.ref d) H'
theorem call_lawDict {K : PySem.W.Frag} {H : Hp} {Q : VK} {E : XK} {b p : Addr} {ys : List Str} (hB : BoxAt H b) (hP : PoolAt H p ys) (hpb : p ≠ b) (hl : ys.length = 10) (k : ∀ (d : Addr) (kvs : List (Key × V)) (H' : Hp), H d = none → H' d = some (.dK kvs) → TxD kvs → kvs.length ≤ 10 → Kp b H H' → BoxAt H' b → Q (.ref d) H') : sp_f_law_dict K [.ref b, .ref p] H Q E := ⟨b, p, ys, rfl, hB, hP, hpb, hl, k⟩
def sp_f_law (K : PySem.W.Frag) : Sp := fun vs H Q E => ∃ (a : Addr) (ns : List Int), vs = [.ref a] ∧ SqF K H a (ns.map V.int) ∧ ns.length ≤ 63 ∧ ∀ H', Q (.bl true) H'
section
variable {P : Program} {w : World} {K : PySem.W.Frag} {mg : Str → Option Value} {base : Heap}
/-! ### _law_box -/
theorem ok_f_law_box {f : Addr} {fd : FuncData} (F : Fun K "_law_box" "_law_box" s_f_law_box f fd)
    (m_len : mg "len" = none)
    (m_int : mg "int" = none) :
    FnG P w K mg base CX0 1 f fd ["script", "k"] (sp_f_law_box K) := by
  refine okG F sc_f_law_box (fun vs H Q E h => ?_) (fun cdv A outer s H vs Q E hr h => ⟨_, (pss_cons (ps_set (i := 2) sc_f_law_box.nd rfl (by first | exact Or.inl rfl | exact Or.inr rfl) (pe_op (op_gAdd (K := K) rfl) (pe_op op_gMul pe_int (pv 1)) pe_int))
    (pss_cons (ps_if (pt_cmpR op_gLt (pv 1) (pe_callB (call_gLen (K := K) rfl) (by rfl) m_len PySem.boot_len (pa_cons (pv 0) pa_nil)) (nomark _)) (pss_one (ps_set (i := 2) sc_f_law_box.nd rfl (by first | exact Or.inl rfl | exact Or.inr rfl) (pe_ix (ix_g (K := K) rfl) (pv 0) (pv 1) (fun _ _ => rfl)))) (pss_one (ps_if (pt_cmpR op_gGt (pe_callB (call_gLen (K := K) rfl) (by rfl) m_len PySem.boot_len (pa_cons (pv 0) pa_nil)) pe_int (nomark _)) (pss_one (ps_set (i := 2) sc_f_law_box.nd rfl (by first | exact Or.inl rfl | exact Or.inr rfl) (pe_op (op_gAdd (K := K) rfl) (pv 2) (pe_op op_gMul (pe_op op_gMod (pe_ix (ix_g (K := K) rfl) (pv 0) (pe_op op_gMod (pv 1) (pe_callB (call_gLen (K := K) rfl) (by rfl) m_len PySem.boot_len (pa_cons (pv 0) pa_nil))) (fun _ _ => rfl)) pe_int) pe_int)))) pss_nil)))
    (pss_cons (ps_set (i := 3) sc_f_law_box.nd rfl (by first | exact Or.inl rfl | exact Or.inr rfl) (pe_op (op_gAdd (K := K) rfl) (pe_op op_gMod (pe_op (op_gAdd (K := K) rfl) (pe_op op_gMul (pe_op op_gMod (pv 2) pe_int) pe_int) (pe_op op_gMul pe_int (pv 1))) pe_int) pe_int))
    (pss_one (ps_ret (pe_lst (pa_cons (pe_ix (ix_g (K := K) rfl) (pe_lst (pa_cons pe_int (pa_cons (pv 2) pa_nil))) (pe_callTy call_gInt (by rfl) m_int PyProof.Rows.boot_int (pa_cons (pe_cmpR op_gGe (pv 2) (pe_op op_gPow pe_int pe_int) (nomark _)) pa_nil)) (fun _ _ => rfl)) (pa_cons (pv 3) pa_nil)))))))), ?_⟩)
  · obtain ⟨_, _, _, rfl, _⟩ := h
    rfl
  · obtain ⟨a, ns, i, rfl, hS, h0, h1, k⟩ := h
    try dsimp only [cxOf, Cx.nox, Cx.wish]
    change (_ : L2.TS) _ [some (.ref a), some (.int i), none, none] _
    refine w_start ?_
    have big : (0 : Int) ≤ 10 ^ Int.toNat 18 := by decide
    repeat' (tm_at "rs")
    · refine w_ixInts hS h0 (by assumption) (fun n _ => ?_)
      repeat' (tm_at "rs")
      all_goals refine k _ _ ?_ ?_ ⟨_, _, by assumption, by omega, by omega, by omega⟩
      all_goals tm_at "rz"
    · rename_i z z1 z2 z3 z4
      refine w_ixInts hS z2 z3 (fun n _ => ?_)
      repeat' (tm_at "rs")
      all_goals refine k _ _ ?_ ?_ ⟨_, _, by assumption, by omega, by omega, by omega⟩
      all_goals tm_at "rz"
    all_goals refine k _ _ ?_ ?_ ⟨_, _, by assumption, by omega, by omega, by omega⟩
    all_goals tm_at "rz"
/-! ### _law_take -/
theorem ok_f_law_take {f : Addr} {fd : FuncData} (F : Fun K "_law_take" "_law_take" s_f_law_take f fd) :
    FnG P w K mg base CX0 1 f fd ["box", "wide"] (sp_f_law_take K) := by
  refine okG F sc_f_law_take (fun vs H Q E h => ?_) (fun cdv A outer s H vs Q E hr h => ⟨_, (pss_cons (ps_if (pt_cmpR op_gGt (pe_ix (ix_g (K := K) rfl) (pv 0) pe_int (fun _ _ => rfl)) pe_int (nomark _)) (pss_cons (ps_set (i := 2) sc_f_law_take.nd rfl (by first | exact Or.inl rfl | exact Or.inr rfl) (pe_op op_gMod (pe_ix (ix_g (K := K) rfl) (pv 0) pe_int (fun _ _ => rfl)) (pv 1)))
    (pss_cons (ps_asg (pe_op op_gDiv (pe_ix (ix_g (K := K) rfl) (pv 0) pe_int (fun _ _ => rfl)) (pv 1)) (pg_sub (pv 0) pe_int set_list))
    (pss_one (ps_ret (pv 2))))) pss_nil)
    (pss_cons (ps_set (i := 3) sc_f_law_take.nd rfl (by first | exact Or.inl rfl | exact Or.inr rfl) (pe_op op_gMod (pe_op op_gMul (pe_ix (ix_g (K := K) rfl) (pv 0) pe_int (fun _ _ => rfl)) pe_int) pe_int))
    (pss_cons (ps_asg (pe_op (op_gAdd (K := K) rfl) (pe_op op_gMod (pe_op (op_gAdd (K := K) rfl) (pe_op op_gMul (pv 3) pe_int) pe_int) pe_int) pe_int) (pg_sub (pv 0) pe_int set_list))
    (pss_one (ps_ret (pe_op op_gMod (pe_op op_gDiv (pe_op (op_gAdd (K := K) rfl) (pe_op op_gMul (pv 3) pe_int) (pe_ix (ix_g (K := K) rfl) (pv 0) pe_int (fun _ _ => rfl))) pe_int) (pv 1))))))), ?_⟩)
  · obtain ⟨_, _, rfl, _⟩ := h
    rfl
  · obtain ⟨b, w, rfl, hB, hw, k⟩ := h
    try dsimp only [cxOf, Cx.nox, Cx.wish]
    change (_ : L2.TS) _ [some (.ref b), some (.int w), none, none] _
    refine w_start ?_
    obtain ⟨x, s, hb, hx, hs, hs2⟩ := hB
    obtain ⟨hw0, hw1⟩ := hw
    repeat' (tm_at "rs")
    · refine k _ _ (by omega) (by omega) (by assumption) ⟨_, _, by assumption, ?_, hs, hs2⟩
      exact Int.ediv_nonneg hx (by omega)
    · refine k _ _ (by omega) (by omega) (by assumption) ⟨_, _, by assumption, hx, ?_, ?_⟩
      · omega
      · omega
/-! ### _law_pool -/
theorem ok_f_law_pool {f : Addr} {fd : FuncData} (F : Fun K "_law_pool" "_law_pool" s_f_law_pool f fd)
    (D_f_law_take : Def P w K mg base CX0 "_law_take" 1 ["box", "wide"] (sp_f_law_take K))
    (m_range : mg "range" = none)
    (m_len : mg "len" = none) :
    FnG P w K mg base CX0 2 f fd ["box", "many"] (sp_f_law_pool K) := by
  refine okG F sc_f_law_pool (fun vs H Q E h => ?_) (fun cdv A outer s H vs Q E hr h => ⟨_, (pss_cons (ps_set (i := 2) sc_f_law_pool.nd rfl (by first | exact Or.inl rfl | exact Or.inr rfl) pe_str)
    (pss_cons (ps_set (i := 3) sc_f_law_pool.nd rfl (by first | exact Or.inl rfl | exact Or.inr rfl) (pe_ix (ix_g (K := K) rfl) (pv 2) (pe_f D_f_law_take (hr.mono (by omega)) (by rfl) pass0 (pa_cons (pv 0) (pa_cons pe_int pa_nil))) (fun _ _ => rfl)))
    (pss_cons (ps_set (i := 4) sc_f_law_pool.nd rfl (by first | exact Or.inl rfl | exact Or.inr rfl) (pe_join pe_str (pe_lc (own := _) rfl sc_f_law_pool.nd (pi_range1 (by rfl) m_range (pa_cons (pe_f D_f_law_take (hr.mono (by omega)) (by rfl) pass0 (pa_cons (pv 0) (pa_cons pe_int pa_nil))) pa_nil)) (blkOk_by (own := [("k", 5)]) (N := ["box", "many", "signs", "head", "stem", "k", "first", "at", "found", "name"]) (sc := defScope s_f_law_pool) (by decide +kernel)) (fun _ _ _ _ _ => (pg_name (i := 5) sc_f_law_pool.nd rfl (by first | exact Or.inl rfl | exact Or.inr rfl))) (fun _ _ _ _ _ => pts_nil) (fun _ _ _ _ _ => (pe_ix (ix_g (K := K) rfl) (pv 2) (pe_f D_f_law_take (hr.mono (by omega)) (by rfl) pass0 (pa_cons (pv 0) (pa_cons pe_int pa_nil))) (fun _ _ => rfl))))))
    (pss_cons (ps_par (i := 6) (j := 7) rfl sc_f_law_pool.nd rfl rfl (by decide) rfl rfl (pa_cons (pe_f D_f_law_take (hr.mono (by omega)) (by rfl) pass0 (pa_cons (pv 0) (pa_cons pe_int pa_nil))) (pa_cons (pe_f D_f_law_take (hr.mono (by omega)) (by rfl) pass0 (pa_cons (pv 0) (pa_cons (pe_op (op_gAdd (K := K) rfl) (pe_callB (call_gLen (K := K) rfl) (by rfl) m_len PySem.boot_len (pa_cons (pv 4) pa_nil)) pe_int) pa_nil))) pa_nil)) (by rfl))
    (pss_cons (ps_set (i := 8) sc_f_law_pool.nd rfl (by first | exact Or.inl rfl | exact Or.inr rfl) (pe_lst pa_nil))
    (pss_cons (ps_for PassesOwn.never rfl (pi_range1 (by rfl) m_range (pa_cons (pv 1) pa_nil)) (pg_name (i := 5) sc_f_law_pool.nd rfl (by first | exact Or.inl rfl | exact Or.inr rfl)) (pss_cons (ps_set (i := 9) sc_f_law_pool.nd rfl (by first | exact Or.inl rfl | exact Or.inr rfl) (pe_op (op_gAdd (K := K) rfl) (pe_op (op_gAdd (K := K) rfl) (pv 3) (pe_slice sl_str (pv 4) po_none (po_some (pv 7)))) (pe_ix (ix_g (K := K) rfl) (pv 2) (pe_op op_gMod (pe_op (op_gAdd (K := K) rfl) (pv 6) (pe_op op_gMul pe_int (pv 5))) pe_int) (fun _ _ => rfl))))
    (pss_one (ps_expr (pe_gbm (K := K) rfl PySem.F.plainAttrs_list PySem.F.slot_list_append PySem.F.type_list_append mt_append (pv 8) (pa_cons (pe_op (op_gAdd (K := K) rfl) (pe_op (op_gAdd (K := K) rfl) (pv 9) (pe_slice sl_str (pv 4) (po_some (pv 7)) po_none)) (pe_op op_gMulS pe_str (pe_op op_gMod (pv 5) pe_int))) pa_nil))))))
    (pss_one (ps_ret (pv 8))))))))), ?_⟩)
  · obtain ⟨_, _, rfl, _⟩ := h
    rfl
  · obtain ⟨b, m, rfl, hB, m0, m1, k⟩ := h
    try dsimp only [cxOf, Cx.nox, Cx.wish]
    change (_ : L2.TS) _ [some (.ref b), some (.int m), none, none, none, none, none, none, none, none] _
    refine w_start ?_
    have hsl : (Str.ofString "abcdefghijklmnopqrstuvwxyz0123456789").length = 36 := by decide +kernel
    repeat' (tm_at "rs")
    rename_i h0 H1 a0 a1 kp1 bx1 c hc w H2 w0 w1 kp2 bx2
    have hcl := Low.sg signs_low hc
    refine lcR (fun D i H' => ∃ cs : List Nat, H' D = some (.lst ((cs.map sg).map V.str)) ∧ cs.length = i ∧ (∀ x ∈ cs, x < 128) ∧ Kp b H2 H' ∧ BoxAt H' b) ?_ ?_ ?_
    · intro D H' nD sm hD
      exact ⟨[], hD, rfl, (by intro x h; cases h), by tm_at "rkp", by tm_at "rbx"⟩
    · rintro D i H' nD hi ⟨cs, hD, hl, hlow, hk, hb⟩
      have hz : ((cs.map sg).map V.str).length ≤ 100 := by rw [List.length_map, List.length_map]; omega
      repeat' (tm_at "rs")
      rename_i d H5 d0 d1 kp5 bx5 c2 hc2 H6 kp6 g6
      refine ⟨cs ++ [c2], by rw [List.map_append, List.map_append]; exact g6, by rw [List.length_append, hl]; rfl, ?_, by tm_at "rkp", by tm_at "rbx"⟩
      intro x hx
      rcases List.mem_append.mp hx with hx | hx
      · exact hlow x hx
      · rw [List.mem_singleton.mp hx]
        exact signs_low _ (List.mem_of_getElem? hc2)
    · rintro D H3 nD ⟨cs, hD, hl, hlow, hk, hb⟩
      refine w_joinE (sq_of hD) (fun y hy => ?_) (by rw [List.length_map]; omega) ?_
      · obtain ⟨x, _, rfl⟩ := List.mem_map.mp hy
        rfl
      have hst := join_sg cs
      have hzl : (Txt.join (Str.ofString "") (cs.map sg)).length ≤ 8 := by
        rw [← tl_len, hst]
        omega
      have hzw : Low (Txt.join (Str.ofString "") (cs.map sg)) := fun x hx => by
        rw [hst] at hx
        exact hlow x hx
      generalize Txt.join (Str.ofString "") (cs.map sg) = z at *
      repeat' (tm_at "rs")
      rename_i f H4 f0 f1 kp4 bx4 at1 H5 t0 t1 kp5 bx5 l H6 nl sl gl
      have nl2 : H l = none := by tm_at "rfr"
      have kp06 : Kp b H H6 := by tm_at "rkp"
      have bx6 : BoxAt H6 b := by tm_at "rbx"
      refine loopR (fun i σ' H' => ∃ (x5 x9 : Option V) (ys : List Str), σ' = [some (.ref b), some (.int m), some (.str (Str.ofString "abcdefghijklmnopqrstuvwxyz0123456789")), some (.str ⟨#[c]⟩), some (.str z), x5, some (.int f), some (.int at1), some (.ref l), x9] ∧ PoolAt H' l ys ∧ ys.length = i ∧ Kp l H6 H') ?_ ?_ ?_
      · exact ⟨_, _, [], rfl, ⟨gl, by intro y h; cases h⟩, rfl, Kp.refl _⟩
      · rintro i σ' H' hi ⟨x5, x9, ys, rfl, ⟨hD, hys⟩, hyl, hkl⟩
        have hz : (ys.map V.str).length ≤ 100 := by rw [List.length_map]; omega
        repeat' (tm_at "rs")
        rename_i q1 c2 hc2 q2
        have hzk := zeros_tl (m := (0 + (i : Int)) % 2) (by omega)
        have hzn : (Txt.mul (Str.ofString "0") ((0 + (i : Int)) % 2)).length ≤ 1 := by
          rw [← tl_len, hzk, List.length_replicate]
          omega
        have hzo := zeros_low ((0 + (i : Int)) % 2) (by omega)
        refine w_mulS (zeros_ok (by omega) (by omega)) ?_
        repeat' (tm_at "rs")
        rename_i H7 kp7 g7
        have hc2w := Low.sg signs_low hc2
        have hcut : (cutS z none (some at1)).length + (cutS z (some at1) none).length ≤ 16 := by omega
        refine ⟨_, _, ys ++ [⟨#[c]⟩ ++ cutS z none (some at1) ++ ⟨#[c2]⟩ ++ cutS z (some at1) none ++ Txt.mul (Str.ofString "0") ((0 + (i : Int)) % 2)], rfl, ⟨by rw [List.map_append]; exact g7, ?_⟩, by rw [List.length_append, hyl]; rfl, Kp.trans hkl kp7⟩
        intro y hy
        rcases List.mem_append.mp hy with hy | hy
        · exact hys y hy
        · rw [List.mem_singleton.mp hy]
          refine ⟨?_, (((hcl.app (hzw.cut _ _)).app hc2w).app (hzw.cut _ _)).app hzo⟩
          simp only [app_len, sgn_len]
          omega
      · rintro σ' H' ⟨x5, x9, ys, rfl, hP, hyl, hkl⟩
        repeat' (tm_at "rs")
        exact k _ ys _ nl2 hP hyl (kp_mut kp06 nl2 hkl) (by
          refine BoxAt.kp bx6 ?_ hkl
          exact (ne_newB nl2 hB).symm)
/-! ### _law_term -/
theorem ok_f_law_term {m : Nat} {f : Addr} {fd : FuncData} (F : Fun K "_law_term" "_law_term" s_f_law_term f fd)
    (D_f_law_take : Def P w K mg base CX0 "_law_take" 1 ["box", "wide"] (sp_f_law_take K))
    (D_f_law_term : Def P w K mg base CX0 "_law_term" (1 + m) ["box", "pool", "down"] (spR_f_law_term K m))
    (m_len : mg "len" = none) :
    FnG P w K mg base CX0 (1 + m + 1) f fd ["box", "pool", "down"] (spR_f_law_term K (m + 1)) := by
  refine okG F sc_f_law_term (fun vs H Q E h => ?_) (fun cdv A outer s H vs Q E hr h => ⟨_, (pss_cons (ps_set (i := 3) sc_f_law_term.nd rfl (by first | exact Or.inl rfl | exact Or.inr rfl) (pe_f D_f_law_take (hr.mono (by omega)) (by rfl) pass0 (pa_cons (pv 0) (pa_cons pe_int pa_nil))))
    (pss_cons (ps_if (PW.pt (pw_or (pt_cmpR op_gLt (pv 2) pe_int (nomark _)) (pw_or1 (pt_cmpR op_gLt (pv 3) pe_int (nomark _))))) (pss_one (ps_ret (pe_tup (pa_cons pe_str (pa_cons (pe_f D_f_law_take (hr.mono (by omega)) (by rfl) pass0 (pa_cons (pv 0) (pa_cons (pe_ix (ix_g (K := K) rfl) (pe_lst (pa_cons pe_int (pa_cons pe_int (pa_cons pe_int pa_nil)))) (pe_f D_f_law_take (hr.mono (by omega)) (by rfl) pass0 (pa_cons (pv 0) (pa_cons pe_int pa_nil))) (fun _ _ => rfl)) pa_nil))) pa_nil))))) pss_nil)
    (pss_cons (ps_if (pt_cmpR op_gLt (pv 3) pe_int (nomark _)) (pss_one (ps_ret (pe_tup (pa_cons pe_str (pa_cons (pe_ix (ix_g (K := K) rfl) (pv 1) (pe_f D_f_law_take (hr.mono (by omega)) (by rfl) pass0 (pa_cons (pv 0) (pa_cons (pe_callB (call_gLen (K := K) rfl) (by rfl) m_len PySem.boot_len (pa_cons (pv 1) pa_nil)) pa_nil))) (fun _ _ => rfl)) pa_nil))))) pss_nil)
    (pss_cons (ps_set (i := 4) sc_f_law_term.nd rfl (by first | exact Or.inl rfl | exact Or.inr rfl) (pe_f D_f_law_term (hr.mono (by omega)) (by rfl) pass0 (pa_cons (pv 0) (pa_cons (pv 1) (pa_cons (pe_op op_sub (pv 2) pe_int) pa_nil)))))
    (pss_cons (ps_if (pt_cmpR (op_gEq (K := K) rfl hr.units) (pv 3) pe_int (nomark _)) (pss_one (ps_ret (pe_tup (pa_cons pe_str (pa_cons (pv 4) (pa_cons (pe_tup (pa_cons pe_str (pa_cons (pe_f D_f_law_take (hr.mono (by omega)) (by rfl) pass0 (pa_cons (pv 0) (pa_cons pe_int pa_nil))) pa_nil))) pa_nil)))))) pss_nil)
    (pss_one (ps_ret (pe_tup (pa_cons (pe_ix (ix_g (K := K) rfl) (pe_lst (pa_cons pe_str (pa_cons pe_str (pa_cons pe_str pa_nil)))) (pe_op op_sub (pv 3) pe_int) (fun _ _ => rfl)) (pa_cons (pv 4) (pa_cons (pe_f D_f_law_term (hr.mono (by omega)) (by rfl) pass0 (pa_cons (pv 0) (pa_cons (pv 1) (pa_cons (pe_op op_sub (pv 2) pe_int) pa_nil)))) pa_nil))))))))))), ?_⟩)
  · obtain ⟨_, _, _, _, rfl, _⟩ := h
    rfl
  · obtain ⟨b, p, ys, d, rfl, hB, hP, hpb, hy1, hy2, hdm, k⟩ := h
    try dsimp only [cxOf, Cx.nox, Cx.wish]
    change (_ : L2.TS) _ [some (.ref b), some (.ref p), some (.int d), none, none] _
    refine w_start ?_
    have hpl : (ys.map V.str).length = ys.length := List.length_map _
    have hP1 := hP.1
    repeat' (tm_at "rs")
    · rename_i f H1 f0 f1 k1 b1 c1 lp H2 n2 s2 g2 w H3 w0 w1 k3 b3 z hz n H4 n0 n1 k4 b4 t H5 nt st gt
      obtain ⟨n, rfl⟩ := Int.eq_ofNat_of_zero_le n0
      exact k _ (.num n) _ (tm_num gt) (.num (by omega)) (by tm_at "rkp") (by tm_at "rbx")
    · rename_i f H1 f0 f1 k1 b1 c1 c2 lp H2 n2 s2 g2 w H3 w0 w1 k3 b3 z hz n H4 n0 n1 k4 b4 t H5 nt st gt
      obtain ⟨n, rfl⟩ := Int.eq_ofNat_of_zero_le n0
      exact k _ (.num n) _ (tm_num gt) (.num (by omega)) (by tm_at "rkp") (by tm_at "rbx")
    · rename_i f H1 f0 f1 k1 b1 c1 c2 c3 w H2 w0 w1 k2 b2
      refine w_ixStrs (ys := ys) (by tm_at "rsq") w0 (by omega) (fun s hs => ?_)
      repeat' (tm_at "rs")
      rename_i t H5 nt st gt
      exact k _ (.name s) _ (tm_name gt) (.name hs) (by tm_at "rkp") (by tm_at "rbx")
    · rename_i f H1 f0 f1 k1 b1 c1 c2 c3
      obtain ⟨r, rfl⟩ : ∃ r, m = r + 1 := ⟨m - 1, by omega⟩
      have hdn : d.toNat = (d - 1).toNat + 1 := by omega
      rw [hdn] at k
      refine call_term b1 ⟨by tm_at "rlk", hP.2⟩ hpb hy1 hy2 (by omega) (fun v1 t1 H2 ta1 tp1 k2 b2 => ?_)
      repeat' (tm_at "rs")
      · rename_i c4 n H3 n0 n1 k3 b3 q H4 nq sq gq t H5 nt st gt
        obtain ⟨n, rfl⟩ := Int.eq_ofNat_of_zero_le n0
        exact k _ (.op "power" t1 (.num n)) _ (tm_op gt (by tm_at "rtm") (tm_num (by tm_at "rlk"))) (.power tp1 (by omega)) (by tm_at "rkp") (by tm_at "rbx")
      · rename_i c4 lp H3 nl sl gl
        have glp : H3 lp = some (.lst (([Str.ofString "plus", Str.ofString "times", Str.ofString "plus"] : List Str).map V.str)) := gl
        refine w_ixStrs (sq_of glp) (by omega) (by show f - 3 < 3; omega) (fun s hs => ?_)
        repeat' (tm_at "rs")
        have kp3 : Kp b H H3 := by tm_at "rkp"
        have b3 : BoxAt H3 b := by tm_at "rbx"
        refine call_term b3 ⟨kp3 _ _ hpb hP1, hP.2⟩ hpb hy1 hy2 (by omega) (fun v2 t2 H4 ta2 tp2 k4 b4 => ?_)
        repeat' (tm_at "rs")
        rename_i t H5 nt st gt
        have kp5 : Kp b H H5 := by
          refine Kp.trans kp3 (Kp.trans k4 (Kp.of st))
        have hs : s = Str.ofString "plus" ∨ s = Str.ofString "times" := by
          rcases List.mem_cons.mp hs with e | hs
          · exact .inl e
          rcases List.mem_cons.mp hs with e | hs
          · exact .inr e
          · exact .inl (List.mem_singleton.mp hs)
        have t15 : TmAt K H5 t1 v1 := by tm_at "rtm"
        have t25 : TmAt K H5 t2 v2 := by tm_at "rtm"
        rcases hs with rfl | rfl
        · exact k _ (.op "plus" t1 t2) _ (tm_op gt t15 t25) (.plus tp1 tp2) kp5 (by tm_at "rbx")
        · exact k _ (.op "times" t1 t2) _ (tm_op gt t15 t25) (.times tp1 tp2) kp5 (by tm_at "rbx")
/-! ### Saying.__init__ -/
theorem ok_f_Saying__init {f : Addr} {fd : FuncData} (F : Fun K "__init__" "Saying.__init__" s_f_Saying__init f fd) {a_WORDS : Addr}
    (c_WORDS : mg "WORDS" = some (.ref a_WORDS))
    (d_WORDS : KDs K w a_WORDS ["same", "under"]) :
    FnG P w K mg base CX0 1 f fd ["self", "word", "left", "right"] (sp_f_Saying__init K) := by
  refine okG F sc_f_Saying__init (fun vs H Q E h => ?_) (fun cdv A outer s H vs Q E hr h => ⟨_, (pss_cons (ps_if (pt_cmp (pc_niK (pv 1) (pe_glob (v := .ref a_WORDS) rfl c_WORDS rfl))) (pss_one ps_never) pss_nil)
    (pss_cons (ps_fld (pv 0) (pv 1) rfl)
    (pss_cons (ps_fld (pv 0) (pv 2) rfl)
    (pss_one (ps_fld (pv 0) (pv 3) rfl))))), ?_⟩)
  · obtain ⟨_, _, _, _, _, _, rfl, _⟩ := h
    rfl
  · obtain ⟨p, C, dx, w, l, r, rfl, hp, hC, hw, k⟩ := h
    try dsimp only [cxOf, Cx.nox, Cx.wish]
    change (_ : L2.TS) _ [some (.ref p), some (.str w), some (l), some (r)] _
    refine w_start ?_
    repeat' (tm_at "rs")
    refine w_nie d_WORDS (by rcases hw with rfl | rfl <;> simp) ?_
    repeat' (tm_at "rs")
    refine w_sfldE hp hC.cl (hC.na _ (by simp)) (by show 0 < 1000; decide) (fun H1 k1 g1 => ?_)
    repeat' (tm_at "rs")
    refine w_sfldE g1 hC.cl (hC.na _ (by simp)) (by show 1 < 1000; decide) (fun H2 k2 g2 => ?_)
    repeat' (tm_at "rs")
    refine w_sfldE g2 hC.cl (hC.na _ (by simp)) (by show 2 < 1000; decide) (fun H3 k3 g3 => ?_)
    repeat' (tm_at "rs")
    exact k _ (Kp.trans k1 (Kp.trans k2 k3)) g3
/-! ### led -/
theorem ok_f_led {m : Nat} {f : Addr} {fd : FuncData} (F : Fun K "led" "led" s_f_led f fd)
    (D_f_led : Def P w K mg base CX0 "led" (0 + m) ["term", "names"] (spR_f_led K m)) :
    FnG P w K mg base CX0 (0 + m + 1) f fd ["term", "names"] (spR_f_led K (m + 1)) := by
  refine okG F sc_f_led (fun vs H Q E h => ?_) (fun cdv A outer s H vs Q E hr h => ⟨_, (pss_cons (ps_if (pt_cmpR (op_gEq (K := K) rfl hr.units) (pe_ix (ix_g (K := K) rfl) (pv 0) pe_int (fun _ _ => rfl)) pe_str (nomark _)) (pss_one (ps_ret (pv 0))) pss_nil)
    (pss_cons (ps_if (pt_cmpR (op_gEq (K := K) rfl hr.units) (pe_ix (ix_g (K := K) rfl) (pv 0) pe_int (fun _ _ => rfl)) pe_str (nomark _)) (pss_one (ps_ret (pe_tup (pa_cons pe_str (pa_cons (pe_dget2 (u_one hr.units) (pv 1) (pe_ix (ix_g (K := K) rfl) (pv 0) pe_int (fun _ _ => rfl)) (pe_ix (ix_g (K := K) rfl) (pv 0) pe_int (fun _ _ => rfl)) ⟨rfl, rfl, rfl, rfl⟩) pa_nil))))) pss_nil)
    (pss_one (ps_ret (pe_tup (pa_cons (pe_ix (ix_g (K := K) rfl) (pv 0) pe_int (fun _ _ => rfl)) (pa_cons (pe_f D_f_led (hr.mono (by omega)) (by rfl) pass0 (pa_cons (pe_ix (ix_g (K := K) rfl) (pv 0) pe_int (fun _ _ => rfl)) (pa_cons (pv 1) pa_nil))) (pa_cons (pe_f D_f_led (hr.mono (by omega)) (by rfl) pass0 (pa_cons (pe_ix (ix_g (K := K) rfl) (pv 0) pe_int (fun _ _ => rfl)) (pa_cons (pv 1) pa_nil))) pa_nil)))))))), ?_⟩)
  · obtain ⟨_, _, _, _, rfl, _⟩ := h
    rfl
  · obtain ⟨v, d, t, kvs, rfl, hv, hd, hx, hn, hm, k⟩ := h
    try dsimp only [cxOf, Cx.nox, Cx.wish]
    change (_ : L2.TS) _ [some (v), some (.ref d)] _
    refine w_start ?_
    cases t with
    | num n =>
      obtain ⟨p, rfl, gp⟩ := id hv
      have n1 : (Str.ofString "num") = Str.ofString "num" := rfl
      repeat' (tm_at "rs")
      all_goals first | contradiction | skip
      exact k _ _ (Same.refl _) hv
    | name s =>
      obtain ⟨p, rfl, gp⟩ := hv
      have n1 : (Str.ofString "name") = Str.ofString "name" := rfl
      have n2 : ¬ (Str.ofString "name") = Str.ofString "num" := by decide
      repeat' (tm_at "rs")
      all_goals first | contradiction | skip
      rename_i t H2 nt st gt
      exact k _ _ st (tm_name gt)
    | op w a b =>
      obtain ⟨p, x, y, rfl, gp, ta, tb⟩ := hv
      obtain ⟨w1, w2, oa, ob⟩ := hn
      have hm : max a.dep b.dep + 1 ≤ m := hm
      cases m with
      | zero => exact absurd hm (by omega)
      | succ r =>
        repeat' (tm_at "rs")
        all_goals first | contradiction | skip
        refine call_led ta hd hx oa (by omega) (fun x2 H2 s2 t2 => ?_)
        have gp2 := gp.imp (Tk.sm s2)
        have hd2 := s2 _ _ hd
        repeat' (tm_at "rs")
        refine call_led (tb.sm s2) hd2 hx ob (by omega) (fun x3 H3 s3 t3 => ?_)
        repeat' (tm_at "rs")
        rename_i t H4 nt st gt
        exact k _ _ (s2.trans (s3.trans st)) (tm_op gt (t2.sm (s3.trans st)) (t3.sm st))
/-! ### renamed -/
theorem ok_f_renamed {f : Addr} {fd : FuncData} (F : Fun K "renamed" "renamed" s_f_renamed f fd) {C_Saying : Addr}
    (G_Saying : DefM P w K mg base CX0 "Saying" 1 ["self", "word", "left", "right"] (sp_f_Saying__init K) C_Saying)
    (SC_Saying : ClsN K "Saying" C_Saying ["word", "left", "right"])
    (D_f_led : Def P w K mg base CX0 "led" 7 ["term", "names"] (sp_f_led K)) :
    FnG P w K mg base CX0 8 f fd ["saying", "names"] (sp_f_renamed K) := by
  refine okG F sc_f_renamed (fun vs H Q E h => ?_) (fun cdv A outer s H vs Q E hr h => ⟨_, (pss_one (ps_ret (pe_mk G_Saying (hr.mono (by omega)) (by rfl) pass0 (pa_cons (pe_fld (pv 0) rfl) (pa_cons (pe_f D_f_led (hr.mono (by omega)) (by rfl) pass0 (pa_cons (pe_fld (pv 0) rfl) (pa_cons (pv 1) pa_nil))) (pa_cons (pe_f D_f_led (hr.mono (by omega)) (by rfl) pass0 (pa_cons (pe_fld (pv 0) rfl) (pa_cons (pv 1) pa_nil))) pa_nil)))))), ?_⟩)
  · obtain ⟨_, _, _, _, _, _, _, _, rfl, _⟩ := h
    rfl
  · obtain ⟨v, d, w, l, r, a, b, kvs, rfl, hv, ha, hb, hw, hd, hx, na, nb, da, db, k⟩ := h
    try dsimp only [cxOf, Cx.nox, Cx.wish]
    change (_ : L2.TS) _ [some (v), some (.ref d)] _
    refine w_start ?_
    repeat' (tm_at "rs")
    refine call_led ha hd hx na (by omega) (fun l2 H2 s2 t2 => ?_)
    have hv2 := hv.sm s2
    have hd2 := s2 _ _ hd
    repeat' (tm_at "rs")
    refine call_led (hb.sm s2) hd2 hx nb (by omega) (fun r2 H3 s3 t3 => ?_)
    repeat' (tm_at "rs")
    refine mk_say SC_Saying hw (fun z H6 n6 s6 hsay => ?_)
    repeat' (tm_at "rs")
    exact k _ _ _ _ (s2.trans (s3.trans s6)) hsay (t2.sm (s3.trans s6)) (t3.sm s6)
/-! ### _law_led -/
theorem ok_f_law_led {m : Nat} {f : Addr} {fd : FuncData} (F : Fun K "_law_led" "_law_led" s_f_law_led f fd)
    (D_f_law_led : Def P w K mg base CX0 "_law_led" (0 + m) ["term", "given"] (spR_f_law_led K m)) :
    FnG P w K mg base CX0 (0 + m + 1) f fd ["term", "given"] (spR_f_law_led K (m + 1)) := by
  refine okG F sc_f_law_led (fun vs H Q E h => ?_) (fun cdv A outer s H vs Q E hr h => ⟨_, (pss_cons (ps_if (pt_cmpR (op_gEq (K := K) rfl hr.units) (pe_ix (ix_g (K := K) rfl) (pv 0) pe_int (fun _ _ => rfl)) pe_str (nomark _)) (pss_one (ps_ret (pe_tup (pa_cons pe_str (pa_cons (pe_ix (ix_g (K := K) rfl) (pv 0) pe_int (fun _ _ => rfl)) pa_nil))))) pss_nil)
    (pss_cons (ps_if (pt_cmpR (op_gEq (K := K) rfl hr.units) (pe_ix (ix_g (K := K) rfl) (pv 0) pe_int (fun _ _ => rfl)) pe_str (nomark _)) (pss_one (ps_ret (pe_tup (pa_cons pe_str (pa_cons (pe_dget2 (u_one hr.units) (pv 1) (pe_ix (ix_g (K := K) rfl) (pv 0) pe_int (fun _ _ => rfl)) (pe_ix (ix_g (K := K) rfl) (pv 0) pe_int (fun _ _ => rfl)) ⟨rfl, rfl, rfl, rfl⟩) pa_nil))))) pss_nil)
    (pss_one (ps_ret (pe_tup (pa_cons (pe_ix (ix_g (K := K) rfl) (pv 0) pe_int (fun _ _ => rfl)) (pa_cons (pe_f D_f_law_led (hr.mono (by omega)) (by rfl) pass0 (pa_cons (pe_ix (ix_g (K := K) rfl) (pv 0) pe_int (fun _ _ => rfl)) (pa_cons (pv 1) pa_nil))) (pa_cons (pe_f D_f_law_led (hr.mono (by omega)) (by rfl) pass0 (pa_cons (pe_ix (ix_g (K := K) rfl) (pv 0) pe_int (fun _ _ => rfl)) (pa_cons (pv 1) pa_nil))) pa_nil)))))))), ?_⟩)
  · obtain ⟨_, _, _, _, rfl, _⟩ := h
    rfl
  · obtain ⟨v, d, t, kvs, rfl, hv, hd, hx, hn, hm, k⟩ := h
    try dsimp only [cxOf, Cx.nox, Cx.wish]
    change (_ : L2.TS) _ [some (v), some (.ref d)] _
    refine w_start ?_
    cases t with
    | num n =>
      obtain ⟨p, rfl, gp⟩ := id hv
      have n1 : (Str.ofString "num") = Str.ofString "num" := rfl
      repeat' (tm_at "rs")
      all_goals first | contradiction | skip
      rename_i t H2 nt st gt
      exact k _ _ st (tm_num gt)
    | name s =>
      obtain ⟨p, rfl, gp⟩ := hv
      have n1 : (Str.ofString "name") = Str.ofString "name" := rfl
      have n2 : ¬ (Str.ofString "name") = Str.ofString "num" := by decide
      repeat' (tm_at "rs")
      all_goals first | contradiction | skip
      rename_i t H2 nt st gt
      exact k _ _ st (tm_name gt)
    | op w a b =>
      obtain ⟨p, x, y, rfl, gp, ta, tb⟩ := hv
      obtain ⟨w1, w2, oa, ob⟩ := hn
      have hm : max a.dep b.dep + 1 ≤ m := hm
      cases m with
      | zero => exact absurd hm (by omega)
      | succ r =>
        repeat' (tm_at "rs")
        all_goals first | contradiction | skip
        refine call_lawLed ta hd hx oa (by omega) (fun x2 H2 s2 t2 => ?_)
        have gp2 := gp.imp (Tk.sm s2)
        have hd2 := s2 _ _ hd
        repeat' (tm_at "rs")
        refine call_lawLed (tb.sm s2) hd2 hx ob (by omega) (fun x3 H3 s3 t3 => ?_)
        repeat' (tm_at "rs")
        rename_i t H4 nt st gt
        exact k _ _ (s2.trans (s3.trans st)) (tm_op gt (t2.sm (s3.trans st)) (t3.sm st))
/-! ### Saying.__eq__ -/
theorem ok_f_Saying__eq {f : Addr} {fd : FuncData} (F : Fun K "__eq__" "Saying.__eq__" s_f_Saying__eq f fd) {C_Saying : Addr}
    (n_Saying : mg "Saying" = some (.ref C_Saying))
    (SC_Saying : ClsN K "Saying" C_Saying ["word", "left", "right"])
    (OC_Saying : ClsO K C_Saying)
    (m_isinstance : mg "isinstance" = none) :
    FnG P w K mg base CX0 1 f fd ["self", "other"] (sp_f_Saying__eq K) := by
  refine okG F sc_f_Saying__eq (fun vs H Q E h => ?_) (fun cdv A outer s H vs Q E hr h => ⟨_, (pss_cons (ps_if (pt_not (pt_val (pe_callB (call_gIsi (K := K) rfl) (by rfl) m_isinstance PyProof.Rows.boot_isinstance (pa_cons (pv 1) (pa_cons (pe_glob (v := .ref C_Saying) rfl n_Saying rfl) pa_nil))))) (pss_one (ps_ret pe_bl)) pss_nil)
    (pss_one (ps_ret (pe_cmpR (op_eqDD rfl hr.big) (pe_tup (pa_cons (pe_fld (pv 0) rfl) (pa_cons (pe_fld (pv 0) rfl) (pa_cons (pe_fld (pv 0) rfl) pa_nil)))) (pe_tup (pa_cons (pe_fld (pv 1) rfl) (pa_cons (pe_fld (pv 1) rfl) (pa_cons (pe_fld (pv 1) rfl) pa_nil)))) (nomark _))))), ?_⟩)
  · obtain ⟨_, _, _, _, _, _, _, _, _, rfl, _⟩ := h
    rfl
  · obtain ⟨a, b, w, l1, r1, l2, r2, x, y, rfl, ha, hb, x1, y1, x2, y2, lw, d1, d2, k⟩ := h
    try dsimp only [cxOf, Cx.nox, Cx.wish]
    change (_ : L2.TS) _ [some (.ref a), some (.ref b)] _
    refine w_start ?_
    obtain ⟨p2, C2, dx2, e2, c2, g2⟩ := id hb
    cases e2
    obtain rfl := sayc_eq c2 SC_Saying
    repeat' (tm_at "rs")
    refine w_isiOwn g2 c2.cl OC_Saying ?_
    repeat' (tm_at "rs")
    rename_i q1 H1 n1 s1 gq1 q2 H2 n2 s2 gq2
    refine w_eqSay (s2 _ _ gq1) gq2 (x1.sm (s1.trans s2)) (y1.sm (s1.trans s2)) (x2.sm (s1.trans s2)) (y2.sm (s1.trans s2)) lw d1 d2 ?_
    repeat' (tm_at "rs")
    exact k _ (s1.trans s2)
/-! ### _law_right -/
theorem ok_f_law_right {f : Addr} {fd : FuncData} (F : Fun K "_law_right" "_law_right" s_f_law_right f fd) {C_Saying : Addr}
    (D_f_renamed : Def P w K mg base CX0 "renamed" 8 ["saying", "names"] (sp_f_renamed K))
    (G_Saying : DefM P w K mg base CX0 "Saying" 1 ["self", "word", "left", "right"] (sp_f_Saying__init K) C_Saying)
    (SC_Saying : ClsN K "Saying" C_Saying ["word", "left", "right"])
    (D_f_law_led : Def P w K mg base CX0 "_law_led" 7 ["term", "given"] (sp_f_law_led K))
    (M_Saying_eq : DefO P w K mg base CX0 C_Saying "__eq__" 1 ["self", "other"] (sp_f_Saying__eq K))
    (OC_Saying : ClsO K C_Saying)
    (DK_f_renamed_names : DefK P w K mg base CX0 "renamed" 8 ["saying", "names"] ["names"] gk_f_renamed_names (sp_f_renamed K))
    (n_Saying : mg "Saying" = some (.ref C_Saying))
    (m_dict : mg "dict" = none)
    (m_isinstance : mg "isinstance" = none)
    (m_repr : mg "repr" = none) :
    FnG P w K mg base CX0 9 f fd ["said", "given"] (sp_f_law_right K) := by
  refine okG F sc_f_law_right (fun vs H Q E h => ?_) (fun cdv A outer s H vs Q E hr h => ⟨_, (pss_cons (ps_asg (pv 0) (pg_gt (K := K) (n := 3) rfl rfl (pgs_cons (pg_name (i := 2) sc_f_law_right.nd rfl (by first | exact Or.inl rfl | exact Or.inr rfl)) (pgs_cons (pg_name (i := 3) sc_f_law_right.nd rfl (by first | exact Or.inl rfl | exact Or.inr rfl)) (pgs_cons (pg_name (i := 4) sc_f_law_right.nd rfl (by first | exact Or.inl rfl | exact Or.inr rfl)) pgs_nil)))))
    (pss_cons (ps_par (i := 5) (j := 6) rfl sc_f_law_right.nd rfl rfl (by decide) rfl rfl (pa_cons (pe_mk G_Saying (hr.mono (by omega)) (by rfl) pass0 (pa_cons (pv 2) (pa_cons (pv 3) (pa_cons (pv 4) pa_nil)))) (pa_cons (pe_callTy call_gDictD (by rfl) m_dict PyProof.Rows.boot_dict (pa_cons (pv 1) pa_nil)) pa_nil)) (by rfl))
    (pss_cons (ps_set (i := 7) sc_f_law_right.nd rfl (by first | exact Or.inl rfl | exact Or.inr rfl) (pe_f D_f_renamed (hr.mono (by omega)) (by rfl) pass0 (pa_cons (pv 5) (pa_cons (pv 6) pa_nil))))
    (pss_cons (ps_set (i := 8) sc_f_law_right.nd rfl (by first | exact Or.inl rfl | exact Or.inr rfl) (pe_tup (pa_cons (pv 2) (pa_cons (pe_f D_f_law_led (hr.mono (by omega)) (by rfl) pass0 (pa_cons (pv 3) (pa_cons (pv 1) pa_nil))) (pa_cons (pe_f D_f_law_led (hr.mono (by omega)) (by rfl) pass0 (pa_cons (pv 4) (pa_cons (pv 1) pa_nil))) pa_nil)))))
    (pss_cons (ps_if (PW.pt (pw_or (pt_not (pt_val (pe_callB (call_gIsi (K := K) rfl) (by rfl) m_isinstance PyProof.Rows.boot_isinstance (pa_cons (pv 7) (pa_cons (pe_glob (v := .ref C_Saying) rfl n_Saying rfl) pa_nil))))) (pw_or1 (pt_cmpR (op_gNe (K := K) rfl hr.units) (pe_callB (call_gRep (K := K) rfl hr.gd hr.big) (by rfl) m_repr (by decide +kernel) (pa_cons (pe_tup (pa_cons (pe_fld (pv 7) rfl) (pa_cons (pe_fld (pv 7) rfl) (pa_cons (pe_fld (pv 7) rfl) pa_nil)))) pa_nil)) (pe_callB (call_gRep (K := K) rfl hr.gd hr.big) (by rfl) m_repr (by decide +kernel) (pa_cons (pv 8) pa_nil)) (nomark _))))) (pss_one (ps_ret pe_bl)) pss_nil)
    (pss_cons (ps_if (PW.pt (pw_or (pt_cmpR (op_gNeD hr.units) (pv 6) (pv 1) (nomark _)) (pw_or1 (pt_cmpR (op_gNe (K := K) rfl hr.units) (pe_callB (call_gRep (K := K) rfl hr.gd hr.big) (by rfl) m_repr (by decide +kernel) (pa_cons (pe_tup (pa_cons (pe_fld (pv 5) rfl) (pa_cons (pe_fld (pv 5) rfl) (pa_cons (pe_fld (pv 5) rfl) pa_nil)))) pa_nil)) (pe_callB (call_gRep (K := K) rfl hr.gd hr.big) (by rfl) m_repr (by decide +kernel) (pa_cons (pv 0) pa_nil)) (nomark _))))) (pss_one (ps_ret pe_bl)) pss_nil)
    (pss_cons (ps_set (i := 9) sc_f_law_right.nd rfl (by first | exact Or.inl rfl | exact Or.inr rfl) (pe_callTy (call_gDictP (K := K) rfl rfl) (by rfl) m_dict PyProof.Rows.boot_dict (pa_cons (pe_lock (pe_lc (own := _) rfl sc_f_law_right.nd (pi_items (pv 1)) (blkOk_by (own := [("old", 10), ("name", 11)]) (N := ["said", "given", "word", "left", "right", "saying", "handed", "found", "due", "back", "old", "name", "some"]) (sc := defScope s_f_law_right) (by decide +kernel)) (fun _ _ _ _ _ => (pg_gt (K := K) (n := 2) rfl rfl (pgs_cons (pg_name (i := 10) sc_f_law_right.nd rfl (by first | exact Or.inl rfl | exact Or.inr rfl)) (pgs_cons (pg_name (i := 11) sc_f_law_right.nd rfl (by first | exact Or.inl rfl | exact Or.inr rfl)) pgs_nil)))) (fun _ _ _ _ _ => pts_nil) (fun _ _ _ _ _ => (pe_tup (pa_cons (pv 11) (pa_cons (pv 10) pa_nil)))))) pa_nil)))
    (pss_cons (ps_for PassesOwn.never rfl (pi_gt (K := K) rfl (pe_tup (pa_cons (pv 9) (pa_cons pe_dnewK (pa_cons (pv 1) pa_nil))))) (pg_name (i := 12) sc_f_law_right.nd rfl (by first | exact Or.inl rfl | exact Or.inr rfl)) (pss_one (ps_if (pt_cmpR (op_neO M_Saying_eq OC_Saying.ne OC_Saying.mo (hr.mono (by omega)) pass0) (pe_f D_f_renamed (hr.mono (by omega)) (by rfl) pass0 (pa_cons (pv 5) (pa_cons (pv 12) pa_nil))) (pe_mk G_Saying (hr.mono (by omega)) (by rfl) pass0 (pa_cons (pv 2) (pa_cons (pe_f D_f_law_led (hr.mono (by omega)) (by rfl) pass0 (pa_cons (pv 3) (pa_cons (pv 12) pa_nil))) (pa_cons (pe_f D_f_law_led (hr.mono (by omega)) (by rfl) pass0 (pa_cons (pv 4) (pa_cons (pv 12) pa_nil))) pa_nil)))) (nomark _)) (pss_one (ps_ret pe_bl)) pss_nil)))
    (pss_one (ps_ret (pe_cmpR (op_eqO M_Saying_eq (hr.mono (by omega)) pass0) (pe_fK DK_f_renamed_names (hr.mono (by omega)) (by rfl) pass0 (pa_cons (pv 5) pa_nil) (pk_cons (pv 6) pk_nil)) (pe_mk G_Saying (hr.mono (by omega)) (by rfl) pass0 (pa_cons (pe_ix (ix_g (K := K) rfl) (pv 8) pe_int (fun _ _ => rfl)) (pa_cons (pe_ix (ix_g (K := K) rfl) (pv 8) pe_int (fun _ _ => rfl)) (pa_cons (pe_ix (ix_g (K := K) rfl) (pv 8) pe_int (fun _ _ => rfl)) pa_nil)))) (nomark _)))))))))))), ?_⟩)
  · obtain ⟨_, _, _, _, _, _, _, _, rfl, _⟩ := h
    rfl
  · obtain ⟨p, d, w, l, r, a, b, kvs, rfl, hp, ha, hb, hw, hd, hx, hxl, na, nb, xa, xb, da, db, wa, wb, k⟩ := h
    try dsimp only [cxOf, Cx.nox, Cx.wish]
    change (_ : L2.TS) _ [some (.ref p), some (.ref d), none, none, none, none, none, none, none, none, none, none, none] _
    refine w_start ?_
    have hX : TmX (.op w a b) := ⟨by rcases hw with rfl | rfl <;> exact ⟨by decide +kernel, by decide⟩, xa, xb⟩
    have hXl : TmX (.op w (a.led kvs) (b.led kvs)) := ⟨hX.1, xa.led hx, xb.led hx⟩
    repeat' (tm_at "rs")
    refine mk_say SC_Saying hw (fun z H1 n1 s1 hz => ?_)
    have hd1 := s1 _ _ hd
    repeat' (tm_at "rs")
    rename_i q H2 nq sq gq
    have s02 := s1.trans sq
    refine call_renamed (hz.sm sq) (ha.sm s02) (hb.sm s02) hw gq hx na nb da db (fun f fl fr H3 s3 hf tfl tfr => ?_)
    have s03 := s02.trans s3
    have hd3 := s03 _ _ hd
    repeat' (tm_at "rs")
    refine call_lawLed (ha.sm s03) hd3 hx na (by omega) (fun dl H4 s4 tdl => ?_)
    have hd4 := s4 _ _ hd3
    repeat' (tm_at "rs")
    refine call_lawLed (hb.sm (s03.trans s4)) hd4 hx nb (by omega) (fun dr H5 s5 tdr => ?_)
    have s05 := s03.trans (s4.trans s5)
    have hf5 := hf.sm (s4.trans s5)
    repeat' (tm_at "rs")
    rename_i D H6 n6 s6 g6
    refine isi_say (hf5.sm s6) SC_Saying OC_Saying ?_
    have hf6 := hf5.sm s6
    repeat' (tm_at "rs")
    rename_i T1 H7 n7 s7 g7
    have dl1 := led_dep kvs a
    have dr1 := led_dep kvs b
    have wl1 := led_wt kvs a
    have wr1 := led_wt kvs b
    have hwt : (Tm.op w (a.led kvs) (b.led kvs)).wt ≤ 24000 := by
      show (a.led kvs).wt + (b.led kvs).wt + 2 ≤ 24000
      omega
    have hwt0 : (Tm.op w a b).wt ≤ 24000 := by
      show a.wt + b.wt + 2 ≤ 24000
      omega
    have s37 := s4.trans (s5.trans (s6.trans s7))
    refine w_repB g7 (tfl.sm s37) (tfr.sm s37) hXl (by omega) (by omega) hwt ?_
    have g67 := s7 _ _ g6
    have s47 := s5.trans (s6.trans s7)
    repeat' (tm_at "rs")
    refine w_repB g67 (tdl.sm s47) (tdr.sm (s6.trans s7)) hXl (by omega) (by omega) hwt ?_
    repeat' (tm_at "rs")
    · rename_i hh; exact absurd rfl hh
    have s07 := s05.trans (s6.trans s7)
    have s27 := s3.trans s37
    refine w_neT (s27 _ _ gq) (s07 _ _ hd) hx ?_
    have hz7 := hz.sm (sq.trans s27)
    repeat' (tm_at "rs")
    rename_i hh T2 H8 n8 s8 g8
    refine w_repB g8 (ha.sm (s07.trans s8)) (hb.sm (s07.trans s8)) hX (by omega) (by omega) hwt0 ?_
    have hp8 := (s07.trans s8) _ _ hp
    repeat' (tm_at "rs")
    refine w_repB hp8 (ha.sm (s07.trans s8)) (hb.sm (s07.trans s8)) hX (by omega) (by omega) hwt0 ?_
    have hd8 := (s07.trans s8) _ _ hd
    have hz8 := hz7.sm s8
    have gq8 := (s27.trans s8) _ _ gq
    have g68 := s8 _ _ g67
    have ha8 := ha.sm (s07.trans s8)
    have hb8 := hb.sm (s07.trans s8)
    have tdl8 := tdl.sm (s47.trans s8)
    have tdr8 := tdr.sm (s6.trans (s7.trans s8))
    have s08 := s07.trans s8
    clear tfl tfr hf hf5 hf6 g7 g67 hz7 hd1 hd3 hd4 hz tdl tdr g6 g8 s27 s47 s37 s02 s03 s05 s07 s1 sq s3 s4 s5 s6 s7 s8 nq n1 n6 n7 n8 gq hp ha hb hd
    repeat' (tm_at "rs")
    · rename_i hh; exact absurd rfl hh
    refine w_lockE hd8 trivial (fun od => ?_)
    generalize hHl : upd H8 d (.frz od (.dK kvs)) = Hl
    have gl : Hl d = some (.frz od (.dK kvs)) := by rw [← hHl]; exact upd_same
    have sl : ∀ x o, x ≠ d → H8 x = some o → Hl x = some o := fun x o n h => by rw [← hHl, upd_ne n]; exact h
    repeat' (tm_at "rs")
    refine lcIt (fun B i H' => ∃ ps : List Addr, H' B = some (.lst (ps.map V.ref)) ∧ Paired (fun (p : Addr) (kv : Key × V) => H' p = some (.tup [kV kv.1, kv.2])) ps ((kvs.take i).map swK) ∧ Kp B Hl H') ?_ ?_ ?_ ?_
    · exact fun B H' nB sm hB => ⟨[], hB, .nil, Kp.of sm⟩
    · rintro B i H' nB hi ⟨ps, hB, hps, hk⟩
      exact hk _ _ (fun e => by rw [← e, gl] at nB; cases nB) gl
    · rintro B i kk v T H1 H2 nB hi hkv ⟨ps, hB, hps, hk⟩ nT sT gT
      obtain ⟨s, u, e, _, _⟩ := hx.ok _ (List.mem_of_getElem? hkv)
      cases e
      have gT2 : H2 T = some (.tup [.str s, .str u]) := gT
      have htk : (kvs.take (i + 1)).map swK = (kvs.take i).map swK ++ [(Sum.inr u, V.str s)] := by
        rw [List.take_succ, hkv, List.map_append]
        rfl
      have hpl : (ps.map V.ref).length ≤ 100 := by
        have := paired_len hps
        rw [List.length_map, List.length_take] at this
        rw [List.length_map]
        omega
      have hB2 := sT _ _ hB
      repeat' (tm_at "rs")
      rename_i T3 H3 n3 s3 g3 H4 k4 g4
      refine ⟨ps ++ [T3], by rw [List.map_append]; exact g4, ?_, ?_⟩
      · rw [htk]
        have hmv : ∀ (p : Addr) (o : List V), H1 p = some (.tup o) → H4 p = some (.tup o) := fun x o h => k4 x _ (fun e => by rw [e, hB] at h; cases h) (s3 _ _ (sT _ _ h))
        exact paired_app (paired_mono (fun x y q => hmv _ _ q) hps) (.cons (k4 T3 _ (fun e => by rw [e, hB2] at n3; cases n3) g3) .nil)
      · exact Kp.trans hk (Kp.trans (Kp.of (sT.trans s3)) k4)
    · rintro B H9 nB ⟨ps, hB, hps, hk⟩
      rw [List.take_length] at hps
      have nBd : B ≠ d := fun e => by rw [e, gl] at nB; cases nB
      refine ⟨hk _ _ nBd.symm gl, ?_⟩
      generalize hHb : upd H9 d (.dK kvs) = Hb
      have s89 : Sm H8 Hb := fun x o h => by
        by_cases e : x = d
        · rw [e] at h ⊢
          rw [hd8] at h
          cases h
          rw [← hHb]
          exact upd_same
        · rw [← hHb, upd_ne e]
          exact hk _ _ (fun q => by
            have := sl x o e h
            rw [q, nB] at this
            cases this) (sl x o e h)
      have hBb : Hb B = some (.lst (ps.map V.ref)) := by rw [← hHb, upd_ne nBd]; exact hB
      have hpb : Paired (fun (p : Addr) (kv : Key × V) => SqT K Hb p [kV kv.1, kv.2]) ps (kvs.map swK) := paired_mono (fun x y q => st_of (by
        rw [← hHb, upd_ne (fun e => by
          have h9 := hk _ _ nBd.symm gl
          rw [e, h9] at q
          cases q)]
        exact q)) hps
      tm_at "rs"
      refine w_dictP (sq_of hBb) hpb (fun bk Hc nc sc gc => ?_)
      have hxb : TxD (mergeK [] (kvs.map swK)) := TxD.nil.merge hx.sw
      have s8c := s89.trans sc
      repeat' (tm_at "rs")
      rename_i hsh e0 He ne se ge t0 Ht nt st gt
      have sct := se.trans st
      have s8t := s8c.trans sct
      have hall : ∀ x ∈ [V.ref bk, V.ref e0, V.ref d], ∃ c ls, x = .ref c ∧ Ht c = some (.dK ls) ∧ TxD ls := fun x hx2 => by
        simp only [List.mem_cons, List.not_mem_nil, or_false] at hx2
        rcases hx2 with rfl | rfl | rfl
        · exact ⟨bk, _, rfl, sct _ _ gc, hxb⟩
        · exact ⟨e0, _, rfl, st _ _ ge, TxD.nil⟩
        · exact ⟨d, _, rfl, s8t _ _ hd8, hx⟩
      refine loopT (xs := [V.ref bk, V.ref e0, V.ref d]) (fun i σ' H' => ∃ (xl : Option V), σ' = [some (.ref p), some (.ref d), some (.str w), some l, some r, some (.ref z), some (.ref q), some f, some (.ref D), some (.ref bk), none, none, xl] ∧ Sm Ht H') ?_ ?_ ?_ ?_
      · exact ⟨_, rfl, Same.refl _⟩
      · rintro i σ' H' hi ⟨xl, rfl, hs⟩
        exact st_of (hs _ _ gt)
      · rintro i x σ' H' hi ⟨xl, rfl, hs⟩
        obtain ⟨c, ls, rfl, hc, hls⟩ := hall x (List.mem_of_getElem? hi)
        have s8' := s8t.trans hs
        have hc' := hs _ _ hc
        have d3 := led_dep ls a
        have d4 := led_dep ls b
        repeat' (tm_at "rs")
        refine call_renamed (hz8.sm s8') (ha8.sm s8') (hb8.sm s8') hw hc' hls na nb da db (fun f2 fl2 fr2 Ha sa hf2 tl2 tr2 => ?_)
        have hca := sa _ _ hc'
        repeat' (tm_at "rs")
        refine call_lawLed (ha8.sm (s8'.trans sa)) hca hls na (by omega) (fun l3 Hb2 sb tl3 => ?_)
        have hcb := sb _ _ hca
        repeat' (tm_at "rs")
        refine call_lawLed (hb8.sm (s8'.trans (sa.trans sb))) hcb hls nb (by omega) (fun r3 Hd2 sd tr3 => ?_)
        repeat' (tm_at "rs")
        refine mk_say SC_Saying hw (fun z2 H20 n20 s20 hz2 => ?_)
        have hf3 := hf2.sm (sb.trans (sd.trans s20))
        obtain ⟨f3, _, _, rfl, _⟩ := id hf3
        repeat' (tm_at "rs")
        refine ne_say SC_Saying hf3 hz2 (tl2.sm (sb.trans (sd.trans s20))) (tr2.sm (sb.trans (sd.trans s20))) (tl3.sm (sd.trans s20)) (tr3.sm s20) (TmX.l ⟨hX.1, xa.led hls, xb.led hls⟩) (by omega) (by omega) (fun H21 s21 => ?_)
        repeat' (tm_at "rs")
        exact ⟨_, rfl, hs.trans (sa.trans (sb.trans (sd.trans (s20.trans s21))))⟩
      · rintro σ' H' ⟨xl, rfl, hs⟩
        have s8' := s8t.trans hs
        repeat' (tm_at "rs")
        refine call_renamed (hz8.sm s8') (ha8.sm s8') (hb8.sm s8') hw (s8' _ _ gq8) hx na nb da db (fun f2 fl2 fr2 Ha sa hf2 tl2 tr2 => ?_)
        have gDa := (s8'.trans sa) _ _ g68
        repeat' (tm_at "rs")
        refine mk_say SC_Saying hw (fun z2 H20 n20 s20 hz2 => ?_)
        have hf3 := hf2.sm s20
        obtain ⟨f3, _, _, rfl, _⟩ := id hf3
        repeat' (tm_at "rs")
        refine eq_say SC_Saying hf3 hz2 (tl2.sm s20) (tr2.sm s20) (tdl8.sm (s8'.trans (sa.trans s20))) (tdr8.sm (s8'.trans (sa.trans s20))) hXl.l (by omega) (by omega) (fun H21 s21 => ?_)
        repeat' (tm_at "rs")
        exact k _ (s08.trans (s8'.trans (sa.trans (s20.trans s21))))
/-! ### _law_dict -/
theorem ok_f_law_dict {f : Addr} {fd : FuncData} (F : Fun K "_law_dict" "_law_dict" s_f_law_dict f fd)
    (D_f_law_take : Def P w K mg base CX0 "_law_take" 1 ["box", "wide"] (sp_f_law_take K))
    (m_range : mg "range" = none) :
    FnG P w K mg base CX0 2 f fd ["box", "pool"] (sp_f_law_dict K) := by
  refine okG F sc_f_law_dict (fun vs H Q E h => ?_) (fun cdv A outer s H vs Q E hr h => ⟨_, (pss_cons (ps_par (i := 2) (j := 3) rfl sc_f_law_dict.nd rfl rfl (by decide) rfl rfl (pa_cons (pe_f D_f_law_take (hr.mono (by omega)) (by rfl) pass0 (pa_cons (pv 0) (pa_cons pe_int pa_nil))) (pa_cons pe_dnewK pa_nil)) (by rfl))
    (pss_cons (ps_if (pt_cmpR (op_gEq (K := K) rfl hr.units) (pv 2) pe_int (nomark _)) (pss_one (ps_ret (pv 3))) pss_nil)
    (pss_cons (ps_for PassesOwn.never rfl (pi_range1 (by rfl) m_range (pa_cons pe_int pa_nil)) (pg_name (i := 4) sc_f_law_dict.nd rfl (by first | exact Or.inl rfl | exact Or.inr rfl)) (pss_one (ps_if (pt_cmpR op_gGt (pe_f D_f_law_take (hr.mono (by omega)) (by rfl) pass0 (pa_cons (pv 0) (pa_cons pe_int pa_nil))) pe_int (nomark _)) (pss_one (ps_dput (u_one hr.units) (pv 3) (pe_ix (ix_g (K := K) rfl) (pv 1) (pv 4) (fun _ _ => rfl)) (pe_ix (ix_g (K := K) rfl) (pe_lst (pa_cons (pe_ix (ix_g (K := K) rfl) (pv 1) (pe_op (op_gAdd (K := K) rfl) pe_int (pv 4)) (fun _ _ => rfl)) (pa_cons (pe_ix (ix_g (K := K) rfl) (pv 1) (pe_op op_gMod (pe_op (op_gAdd (K := K) rfl) (pv 4) pe_int) pe_int) (fun _ _ => rfl)) (pa_cons (pe_ix (ix_g (K := K) rfl) (pv 1) pe_int (fun _ _ => rfl)) (pa_cons (pe_ix (ix_g (K := K) rfl) (pv 1) (pe_f D_f_law_take (hr.mono (by omega)) (by rfl) pass0 (pa_cons (pv 0) (pa_cons pe_int pa_nil))) (fun _ _ => rfl)) pa_nil))))) (pe_op op_sub (pv 2) pe_int) (fun _ _ => rfl)) rfl)) pss_nil)))
    (pss_cons (ps_if (pt_cmpR (op_gEq (K := K) rfl hr.units) (pe_f D_f_law_take (hr.mono (by omega)) (by rfl) pass0 (pa_cons (pv 0) (pa_cons pe_int pa_nil))) pe_int (nomark _)) (pss_one (ps_dput (u_one hr.units) (pv 3) (pe_ix (ix_g (K := K) rfl) (pv 1) pe_int (fun _ _ => rfl)) (pe_ix (ix_g (K := K) rfl) (pv 1) (pe_f D_f_law_take (hr.mono (by omega)) (by rfl) pass0 (pa_cons (pv 0) (pa_cons pe_int pa_nil))) (fun _ _ => rfl)) rfl)) pss_nil)
    (pss_one (ps_ret (pv 3))))))), ?_⟩)
  · obtain ⟨_, _, _, rfl, _⟩ := h
    rfl
  · obtain ⟨b, p, ys, rfl, hB, hP, hpb, hl, k⟩ := h
    try dsimp only [cxOf, Cx.nox, Cx.wish]
    change (_ : L2.TS) _ [some (.ref b), some (.ref p), none, none, none] _
    refine w_start ?_
    have hpl : (ys.map V.str).length = ys.length := List.length_map _
    have hP1 := hP.1
    have hnm : ∀ y ∈ ys, Nm y := fun y hy => nm_low (hP.2 y hy).2 (hP.2 y hy).1
    repeat' (tm_at "rs")
    · rename_i f H1 f0 f1 k1 b1 d H2 nd sd gd e
      exact k _ _ _ (by tm_at "rfr") gd TxD.nil (by decide) (by tm_at "rkp") (by tm_at "rbx")
    rename_i f H1 f0 f1 k1 b1 d H2 nd sd gd e
    have pd : p ≠ d := ne_of_none (k1 _ _ hpb hP1) nd
    have bd : b ≠ d := fun q => by
      obtain ⟨x, y, g, _⟩ := b1
      rw [q, nd] at g
      cases g
    have dn : H d = none := by tm_at "rfr"
    refine loopR (fun i σ' H' => ∃ (x4 : Option V) (kvs : List (Key × V)), σ' = [some (.ref b), some (.ref p), some (.int f), some (.ref d), x4] ∧ H' d = some (.dK kvs) ∧ TxD kvs ∧ kvs.length ≤ i ∧ Kp b H H' ∧ BoxAt H' b) ?_ ?_ ?_
    · exact ⟨_, [], rfl, gd, TxD.nil, Nat.zero_le _, by tm_at "rkp", by tm_at "rbx"⟩
    · rintro i σ' H' hi ⟨x4, kvs, rfl, hd, hx, hkl, hk, hb⟩
      have hi5 : i < 5 := hi
      have hP2 := hk _ _ hpb hP1
      repeat' (tm_at "rs")
      · rename_i n H2 n0 n1 k2 b2 e
        have hP3 := k2 _ _ hpb hP2
        have hd2 := k2 _ _ bd.symm hd
        refine w_ixStrs (sq_of hP3) (by omega) (by omega) (fun s1 hs1 => ?_)
        repeat' (tm_at "rs")
        refine w_ixStrs (sq_of hP3) (by omega) (by omega) (fun s2 hs2 => ?_)
        repeat' (tm_at "rs")
        refine w_ixStrs (sq_of hP3) (by omega) (by omega) (fun s3 hs3 => ?_)
        repeat' (tm_at "rs")
        rename_i m H4 m0 m1 k4 b4
        have hP5 := k4 _ _ hpb hP3
        have hd4 := k4 _ _ bd.symm hd2
        refine w_ixStrs (sq_of hP5) (by omega) (by omega) (fun s4 hs4 => ?_)
        repeat' (tm_at "rs")
        rename_i l H6 nl sl gl
        have hP6 := sl _ _ hP5
        have hd6 := sl _ _ hd4
        have gl2 : H6 l = some (.lst (([s1, s2, s3, s4] : List Str).map V.str)) := gl
        refine w_ixStrs (ys := [s1, s2, s3, s4]) (sq_of gl2) (by omega) (by show f - 1 < 4; omega) (fun u hu => ?_)
        have hum : u ∈ ys := by
          simp only [List.mem_cons, List.not_mem_nil, or_false] at hu
          rcases hu with rfl | rfl | rfl | rfl <;> assumption
        repeat' (tm_at "rs")
        refine w_ixStrs (sq_of hP6) (by omega) (by omega) (fun s hs => ?_)
        have hkz : kvs.length ≤ 100 := by omega
        repeat' (tm_at "rs")
        rename_i H7 k7 g7
        have b7 : BoxAt H7 b := (b4.sm sl).kp bd k7
        refine ⟨_, _, rfl, g7, hx.put (hnm _ hs) (hnm _ hum), Nat.le_trans putK_len (by omega), ?_, b7⟩
        have k06 : Kp b H H6 := Kp.trans hk (Kp.trans k2 (Kp.trans k4 (Kp.of sl)))
        exact fun x o n h => k7 x o (fun e => by rw [e, dn] at h; cases h) (k06 x o n h)
      · rename_i n H2 n0 n1 k2 b2 e
        exact ⟨_, kvs, rfl, k2 _ _ bd.symm hd, hx, by omega, by tm_at "rkp", by tm_at "rbx"⟩
    · rintro σ' H' ⟨x4, kvs, rfl, hd, hx, hkl, hk, hb⟩
      have hkl5 : kvs.length ≤ 5 := hkl
      have hP2 := hk _ _ hpb hP1
      repeat' (tm_at "rs")
      · rename_i n H2 n0 n1 k2 b2 e m H4 m0 m1 k4 b4
        have hP4 := k4 _ _ hpb (k2 _ _ hpb hP2)
        have hd4 := k4 _ _ bd.symm (k2 _ _ bd.symm hd)
        refine w_ixStrs (sq_of hP4) (by omega) (by omega) (fun u hu => ?_)
        repeat' (tm_at "rs")
        refine w_ixStrs (sq_of hP4) (by omega) (by omega) (fun s hs => ?_)
        have hkz : kvs.length ≤ 100 := by omega
        repeat' (tm_at "rs")
        rename_i H7 k7 g7
        have b7 : BoxAt H7 b := b4.kp bd k7
        have k04 : Kp b H H4 := Kp.trans hk (Kp.trans k2 k4)
        exact k _ _ _ dn g7 (hx.put (hnm _ hs) (hnm _ hu)) (Nat.le_trans putK_len (by omega)) (fun x o n h => k7 x o (fun e => by rw [e, dn] at h; cases h) (k04 x o n h)) b7
      · rename_i n H2 n0 n1 k2 b2 e
        exact k _ _ _ dn (k2 _ _ bd.symm hd) hx (by omega) (by tm_at "rkp") b2
/-! ### law -/
theorem ok_f_law {f : Addr} {fd : FuncData} (F : Fun K "law" "law" s_f_law f fd)
    (D_f_law_box : Def P w K mg base CX0 "_law_box" 1 ["script", "k"] (sp_f_law_box K))
    (D_f_law_pool : Def P w K mg base CX0 "_law_pool" 2 ["box", "many"] (sp_f_law_pool K))
    (D_f_law_take : Def P w K mg base CX0 "_law_take" 1 ["box", "wide"] (sp_f_law_take K))
    (D_f_law_term : Def P w K mg base CX0 "_law_term" 7 ["box", "pool", "down"] (sp_f_law_term K))
    (D_f_law_right : Def P w K mg base CX0 "_law_right" 9 ["said", "given"] (sp_f_law_right K))
    (D_f_law_dict : Def P w K mg base CX0 "_law_dict" 2 ["box", "pool"] (sp_f_law_dict K))
    (m_range : mg "range" = none)
    (m_all : mg "all" = none)
    (m_max : mg "max" = none)
    (m_min : mg "min" = none)
    (m_len : mg "len" = none) :
    FnG P w K mg base CX0 10 f fd ["script"] (sp_f_law K) := by
  refine okG F sc_f_law (fun vs H Q E h => ?_) (fun cdv A outer s H vs Q E hr h => ⟨_, (pss_cons (ps_set (i := 1) sc_f_law.nd rfl (by first | exact Or.inl rfl | exact Or.inr rfl) (pe_lst pa_nil))
    (pss_cons (ps_for PassesOwn.never rfl (pi_range1 (by rfl) m_range (pa_cons (pe_callB (call_gMax rfl) (by rfl) m_max (by decide +kernel) (pa_cons pe_int (pa_cons (pe_callB (call_gMin rfl) (by rfl) m_min (by decide +kernel) (pa_cons pe_int (pa_cons (pe_callB (call_gLen (K := K) rfl) (by rfl) m_len PySem.boot_len (pa_cons (pv 0) pa_nil)) pa_nil))) pa_nil))) pa_nil)) (pg_name (i := 2) sc_f_law.nd rfl (by first | exact Or.inl rfl | exact Or.inr rfl)) (pss_cons (ps_set (i := 3) sc_f_law.nd rfl (by first | exact Or.inl rfl | exact Or.inr rfl) (pe_f D_f_law_box (hr.mono (by omega)) (by rfl) pass0 (pa_cons (pv 0) (pa_cons (pv 2) pa_nil))))
    (pss_cons (ps_set (i := 4) sc_f_law.nd rfl (by first | exact Or.inl rfl | exact Or.inr rfl) (pe_f D_f_law_pool (hr.mono (by omega)) (by rfl) pass0 (pa_cons (pv 3) (pa_cons pe_int pa_nil))))
    (pss_cons (ps_set (i := 5) sc_f_law.nd rfl (by first | exact Or.inl rfl | exact Or.inr rfl) (pe_ix (ix_g (K := K) rfl) (pe_lst (pa_cons pe_str (pa_cons pe_str pa_nil))) (pe_f D_f_law_take (hr.mono (by omega)) (by rfl) pass0 (pa_cons (pv 3) (pa_cons pe_int pa_nil))) (fun _ _ => rfl)))
    (pss_cons (ps_set (i := 6) sc_f_law.nd rfl (by first | exact Or.inl rfl | exact Or.inr rfl) (pe_tup (pa_cons (pv 5) (pa_cons (pe_f D_f_law_term (hr.mono (by omega)) (by rfl) pass0 (pa_cons (pv 3) (pa_cons (pe_slice (sl_gl (K := K) rfl) (pv 4) po_none (po_some pe_int)) (pa_cons pe_int pa_nil)))) (pa_cons (pe_f D_f_law_term (hr.mono (by omega)) (by rfl) pass0 (pa_cons (pv 3) (pa_cons (pe_slice (sl_gl (K := K) rfl) (pv 4) po_none (po_some pe_int)) (pa_cons pe_int pa_nil)))) pa_nil)))))
    (pss_cons (ps_if (pt_cmpR (op_gEq (K := K) rfl hr.units) (pe_f D_f_law_take (hr.mono (by omega)) (by rfl) pass0 (pa_cons (pv 3) (pa_cons pe_int pa_nil))) pe_int (nomark _)) (pss_one (ps_set (i := 6) sc_f_law.nd rfl (by first | exact Or.inl rfl | exact Or.inr rfl) (pe_tup (pa_cons (pv 5) (pa_cons (pe_tup (pa_cons pe_str (pa_cons (pe_ix (ix_g (K := K) rfl) (pv 6) pe_int (fun _ _ => rfl)) (pa_cons (pe_ix (ix_g (K := K) rfl) (pv 6) pe_int (fun _ _ => rfl)) pa_nil)))) (pa_cons (pe_tup (pa_cons pe_str (pa_cons (pe_ix (ix_g (K := K) rfl) (pv 6) pe_int (fun _ _ => rfl)) (pa_cons (pe_tup (pa_cons pe_str (pa_cons (pe_tup (pa_cons pe_str (pa_cons pe_int pa_nil))) (pa_cons (pe_ix (ix_g (K := K) rfl) (pv 6) pe_int (fun _ _ => rfl)) pa_nil)))) pa_nil)))) pa_nil)))))) pss_nil)
    (pss_one (ps_expr (pe_gbm (K := K) rfl PySem.F.plainAttrs_list PySem.F.slot_list_append PySem.F.type_list_append mt_append (pv 1) (pa_cons (pe_tup (pa_cons (pv 6) (pa_cons (pe_f D_f_law_dict (hr.mono (by omega)) (by rfl) pass0 (pa_cons (pv 3) (pa_cons (pv 4) pa_nil))) pa_nil))) pa_nil))))))))))
    (pss_one (ps_ret (pe_callB (cr_all rfl) (by rfl) m_all (by decide +kernel) (pa_cons (pe_lc (own := _) rfl sc_f_law.nd (pi_gl (K := K) rfl (pe_op (op_gAdd (K := K) rfl) (pv 1) (pe_slice (sl_gl (K := K) rfl) (pv 1) po_none (po_some pe_int)))) (blkOk_by (own := [("said", 6), ("given", 7)]) (N := ["script", "asked", "k", "box", "pool", "word", "said", "given"]) (sc := defScope s_f_law) (by decide +kernel)) (fun _ _ _ _ _ => (pg_gt (K := K) (n := 2) rfl rfl (pgs_cons (pg_name (i := 6) sc_f_law.nd rfl (by first | exact Or.inl rfl | exact Or.inr rfl)) (pgs_cons (pg_name (i := 7) sc_f_law.nd rfl (by first | exact Or.inl rfl | exact Or.inr rfl)) pgs_nil)))) (fun _ _ _ _ _ => pts_nil) (fun _ _ _ _ _ => (pe_f D_f_law_right (hr.mono (by omega)) (by rfl) pass0 (pa_cons (pv 6) (pa_cons (pv 7) pa_nil))))) pa_nil)))))), ?_⟩)
  · obtain ⟨_, _, rfl, _⟩ := h
    rfl
  · obtain ⟨a, ns, rfl, hS, hlen, k⟩ := h
    try dsimp only [cxOf, Cx.nox, Cx.wish]
    change (_ : L2.TS) _ [some (.ref a), none, none, none, none, none, none, none] _
    refine w_start ?_
    have hl0 : (ns.map V.int).length ≤ 63 := by rw [List.length_map]; exact hlen
    repeat' (tm_at "rs")
    rename_i S H1 nS sS gS
    have hS1 := hS.sm sS
    clear hS
    refine loopR (fun i σ' H' => ∃ (x2 x3 x4 x5 x6 x7 : Option V) (xs : List V), σ' = [some (.ref a), some (.ref S), x2, x3, x4, x5, x6, x7] ∧ H' S = some (.lst xs) ∧ xs.length = i ∧ (∀ x ∈ xs, E67 K H' x) ∧ SqF K H' a (ns.map V.int)) ?_ ?_ ?_
    · exact ⟨_, _, _, _, _, _, [], rfl, gS, rfl, (fun x h => by cases h), hS1⟩
    · rintro i σ' H' hi ⟨x2, x3, x4, x5, x6, x7, xs, rfl, gS', hxl, hE, hS'⟩
      have hi12 : i < 12 := by omega
      repeat' (tm_at "rs")
      rename_i bx Ha nb sa ba p zs Hc np hP hzl kc bc wl Hd nwl swl gwl wi He w0 w1 ke be
      have hz10 : zs.length = 10 := hzl
      have pb : p ≠ bx := ne_newB np ba
      have Sb : S ≠ bx := ne_of_none gS' nb
      have hPe : PoolAt He p zs := ⟨ke _ _ pb (swl _ _ hP.1), hP.2⟩
      have gSe : He S = some (.lst xs) := ke _ _ Sb (swl _ _ (kc _ _ Sb (sa _ _ gS')))
      have tde : Td H' He := (Td.sm sa).trans ((Td.kb ba kc).trans ((Td.sm swl).trans (Td.kb (bc.sm swl) ke)))
      have hEe : ∀ x ∈ xs, E67 K He x := fun x hx => (hE x hx).td tde
      have hSe : SqF K He a (ns.map V.int) := ((((hS'.sm sa).kpB ba kc).sm swl).kpB (bc.sm swl) ke)
      have gwl2 : He wl = some (.lst (([Str.ofString "same", Str.ofString "under"] : List Str).map V.str)) := ke _ _ (ne_newB nwl bc) gwl
      refine w_ixStrs (sq_of gwl2) w0 (by show wi < 2; omega) (fun wd hwd => ?_)
      have hww : wd = "same" ∨ wd = "under" := by
        simp only [List.mem_cons, List.not_mem_nil, or_false] at hwd
        exact hwd
      clear hE hS' hS1 gS gwl gwl2 hwd
      have hnm : ∀ y ∈ zs.take 5, y.length ≤ 20 ∧ Low y := fun y hy => hP.2 y (List.mem_of_mem_take hy)
      have cutz : cutV (zs.map V.str) none (some 5) = (zs.take 5).map V.str := by rw [cut_hi (by decide), List.map_take]; rfl
      have hz5 : (zs.take 5).length = 5 := by rw [List.length_take]; omega
      have gpe := hPe.1
      repeat' (tm_at "rs")
      rename_i p1 H1 nq sq gq
      have pb1 : p1 ≠ bx := ne_newB nq be
      rw [cutz] at gq
      refine call_term (n := 4) (be.sm sq) ⟨gq, hnm⟩ pb1 (by omega) (by omega) (by decide) (fun v1 t1 H2 ta1 tp1 k2 b2 => ?_)
      have gp2 := k2 _ _ pb (sq _ _ gpe)
      repeat' (tm_at "rs")
      rename_i p2 H3 nr sr gr
      have pb2 : p2 ≠ bx := ne_newB nr b2
      rw [cutz] at gr
      refine call_term (n := 4) (b2.sm sr) ⟨gr, hnm⟩ pb2 (by omega) (by omega) (by decide) (fun v2 t2 H4 ta2 tp2 k4 b4 => ?_)
      have td24 : Td H2 H4 := (Td.sm sr).trans (Td.kb (b2.sm sr) k4)
      have tde4 : Td He H4 := ((Td.sm sq).trans (Td.kb (be.sm sq) k2)).trans td24
      have gS4 : H4 S = some (.lst xs) := k4 _ _ Sb (sr _ _ (k2 _ _ Sb (sq _ _ gSe)))
      have hP4 : PoolAt H4 p zs := ⟨k4 _ _ pb (sr _ _ gp2), hP.2⟩
      have hS4 : SqF K H4 a (ns.map V.int) := (((hSe.sm sq).kpB (be.sm sq) k2).sm sr).kpB (b2.sm sr) k4
      have ta1' := ta1.tk td24.1
      have hE4 : ∀ x ∈ xs, E67 K H4 x := fun x hx => (hEe x hx).td tde4
      have x1 := tmp_X hnm tp1
      have x2' := tmp_X hnm tp2
      have n1 := tmp_N tp1
      have n2 := tmp_N tp2
      have d1 : t1.dep ≤ 3 := tmp_dep tp1
      have d2 : t2.dep ≤ 3 := tmp_dep tp2
      have w1' : t1.wt + 2 ≤ 24 := tmp_wt tp1
      have w2' : t2.wt + 2 ≤ 24 := tmp_wt tp2
      clear hEe hSe gSe gpe gp2 hPe k2 k4 sq sr gq gr tde tde4 td24 ta1 tp1 tp2
      repeat ((fail_if_success (with_reducible refine w_ifJ (fun _ _ => True) ?_ ?_)); tm_at "rs")
      rename_i sd H5 n5 s5 g5
      have h67 : S67 K H5 sd wd v1 v2 t1 t2 := ⟨g5, ta1'.sm s5, ta2.sm s5, hww, n1, n2, x1, x2', by omega, by omega, by omega, by omega⟩
      refine w_ifJ (fun σ' H' => ∃ (x7 : Option V) (sd : Addr) (l r : V) (ta tb : Tm), σ' = [some (.ref a), some (.ref S), some (.int (0 + (i : Int))), some (.ref bx), some (.ref p), some (.str wd), some (.ref sd), x7] ∧ S67 K H' sd wd l r ta tb ∧ BoxAt H' bx ∧ PoolAt H' p zs ∧ H' S = some (.lst xs) ∧ (∀ x ∈ xs, E67 K H' x) ∧ SqF K H' a (ns.map V.int)) ?_ ?_
      rotate_left
      · intro N kj
        repeat' (tm_at "rs")
        · rename_i w3 Ha3 w30 w31 k3 b3 e3 A HA nA sA gA B HB nB sB gB C HC nC sC gC D HD nD sD gD F HF nF sF gF
          have t5 : Td H5 Ha3 := Td.kb (b4.sm s5) k3
          have sAF := sA.trans (sB.trans (sC.trans (sD.trans sF)))
          have t5F := t5.trans (Td.sm sAF)
          have a1 : TmAt K Ha3 t1 v1 := h67.ta.tk t5.1
          have a2 : TmAt K Ha3 t2 v2 := h67.tb.tk t5.1
          have tA : TmAt K HA (.op "power" t1 t2) (.ref A) := tm_op gA (a1.sm sA) (a2.sm sA)
          have tB : TmAt K HB (.num 2) (.ref B) := tm_num gB
          have tC : TmAt K HC (.op "power" (.num 2) t1) (.ref C) := tm_op gC (tB.sm sC) (a1.sm (sA.trans (sB.trans sC)))
          have tD : TmAt K HD (.op "times" t2 (.op "power" (.num 2) t1)) (.ref D) := tm_op gD (a2.sm (sA.trans (sB.trans (sC.trans sD)))) (tC.sm sD)
          have okp : PyData.strOk (Str.ofString "power") = true ∧ (Str.ofString "power").length ≤ 20 := ⟨by decide +kernel, by decide⟩
          have okt : PyData.strOk (Str.ofString "times") = true ∧ (Str.ofString "times").length ≤ 20 := ⟨by decide +kernel, by decide⟩
          have x2n : TmX (.num 2) := by show (2 : Nat) < 10 ^ 12; decide
          refine kj _ _ ⟨x7, F, _, _, _, _, rfl, ⟨gF, tA.sm (sB.trans (sC.trans (sD.trans sF))), tD.sm sF, hww, ⟨by decide, by decide, n1, n2⟩, ⟨by decide, by decide, n2, by decide, by decide, trivial, n1⟩, ⟨okp, x1, x2'⟩, ⟨okt, x2', okp, x2n, x1⟩, ?_, ?_, ?_, ?_⟩, b3.sm sAF, ⟨sAF _ _ (k3 _ _ pb (s5 _ _ hP4.1)), hP4.2⟩, sAF _ _ (k3 _ _ Sb (s5 _ _ gS4)), fun x hx => ((hE4 x hx).td (Td.sm s5)).td t5F, ((hS4.sm s5).kpB (b4.sm s5) k3).sm sAF⟩
          · show max t1.dep t2.dep + 1 ≤ 5
            omega
          · show max t2.dep (max 0 t1.dep + 1) + 1 ≤ 5
            omega
          · show t1.wt + t2.wt + 2 ≤ 200
            omega
          · show t2.wt + (1 + t1.wt + 2) + 2 ≤ 200
            omega
        · rename_i w3 Ha3 w30 w31 k3 b3 e3
          have t5 : Td H5 Ha3 := Td.kb (b4.sm s5) k3
          exact kj _ _ ⟨x7, sd, _, _, _, _, rfl, h67.td t5, b3, ⟨k3 _ _ pb (s5 _ _ hP4.1), hP4.2⟩, k3 _ _ Sb (s5 _ _ gS4), fun x hx => ((hE4 x hx).td (Td.sm s5)).td t5, (hS4.sm s5).kpB (b4.sm s5) k3⟩
      rintro σ' H6 ⟨x7, sd2, l, r, ta, tb, rfl, h6, b6, hP6, gS6, hE6, hS6⟩
      repeat' (tm_at "rs")
      refine call_lawDict b6 hP6 pb hz10 (fun d kvs H7 nd gd hx hkl k7 b7 => ?_)
      have t67 : Td H6 H7 := Td.kb b6 k7
      have gS7 := k7 _ _ Sb gS6
      have hxl2 : xs.length ≤ 100 := by omega
      have hS7 : SqF K H7 a (ns.map V.int) := hS6.kpB b6 k7
      repeat' (tm_at "rs")
      rename_i t8 H8 n8 s8 g8 H9 k9 g9
      have gS8 := s8 _ _ gS7
      have t89 : Td H8 H9 := Td.kp gS8 k9
      have t69 := (t67.trans (Td.sm s8)).trans t89
      refine ⟨_, _, _, _, _, _, _, rfl, g9, by rw [List.length_append, hxl]; rfl, fun x hxm => ?_, (hS7.sm s8).kp gS8 k9⟩
      rcases List.mem_append.mp hxm with h | h
      · exact (hE6 x h).td t69
      · rw [List.mem_singleton.mp h]
        exact ⟨t8, sd2, d, wd, l, r, ta, tb, kvs, rfl, t89.1 _ _ g8, h6.td t69, ((Td.sm s8).trans t89).2 _ _ gd, hx, hkl⟩
    · rintro σ' H' ⟨x2, x3, x4, x5, x6, x7, xs, rfl, gS', hxl, hE, hS'⟩
      have ln : 1 ≤ xs.length ∧ xs.length ≤ 12 := by omega
      repeat' (tm_at "rs")
      rename_i c1 Hc1 nc1 sc1 gc1 c2 Hc2 nc2 sc2 gc2
      have hE2 : ∀ x ∈ xs ++ cutV xs none (some 1), E67 K Hc2 x := fun x hx => by
        have hm : x ∈ xs := by
          rcases List.mem_append.mp hx with h | h
          · exact h
          · rw [cut_hi (by decide)] at h
            exact List.mem_of_mem_take h
        exact (hE x hm).td (Td.sm (sc1.trans sc2))
      have hll : (xs ++ cutV xs none (some 1)).length ≤ 13 := by
        rw [List.length_append, cut_hi (by decide), List.length_take]
        show xs.length + min 1 xs.length ≤ 13
        omega
      generalize xs ++ cutV xs none (some 1) = ys at *
      refine lcLs (xs := ys) (fun D i H' => Sm Hc2 H' ∧ H' D = some (.lst ((List.replicate i true).map V.bl))) ?_ ?_ ?_ ?_
      · exact fun D H' nD sm hD => ⟨sm, hD⟩
      · exact fun D i H' nD hi h => sq_of (h.1 _ _ gc2)
      · rintro D i x H' nD hi ⟨sm, hD⟩
        obtain ⟨t, p, d, wd, l, r, ta, tb, kvs, rfl, ht, h67, hd, hx, hl⟩ := (hE2 x (List.mem_of_getElem? hi)).td (Td.sm sm)
        have hil : ((List.replicate i true).map V.bl).length ≤ 100 := by
          rw [List.length_map, List.length_replicate]
          have := (List.getElem?_eq_some_iff.mp hi).1
          omega
        repeat' (tm_at "rs")
        refine call_right67 h67.hp h67.ta h67.tb h67.hw hd hx hl h67.na h67.nb h67.xa h67.xb h67.da h67.db h67.wa h67.wb (fun H8 s8 => ?_)
        have hD8 := s8 _ _ hD
        repeat' (tm_at "rs")
        rename_i H9 k9 g9
        refine ⟨by tm_at "rsm", ?_⟩
        rw [List.replicate_succ', List.map_append]
        exact g9
      · rintro D H8 nD ⟨sm, hD⟩
        repeat' (tm_at "rs")
        rw [show (List.replicate ys.length true).all id = true by rw [List.all_eq_true]; intro x hx; rw [(List.mem_replicate.mp hx).2]; rfl]
        repeat' (tm_at "rs")
        exact k _
end
theorem all_mk {l : PySem.W.OpenLaw} {w : World} {K : PySem.W.Frag} {h : Heap} {mg : Str → Option Value} {fa : Addr} (X : K.In h) (G : h.Ns mainGlobals mg) (hfa : mg "law" = some (.ref fa))
    {f0 : Addr} {od0 an0 : Option Addr} {sl0 : Array (Option Value)} {oc0 kV0 dc0 pm0 cd0 ct0 : Value}
    {f1 : Addr} {od1 an1 : Option Addr} {sl1 : Array (Option Value)} {oc1 kV1 dc1 pm1 cd1 ct1 : Value}
    {f2 : Addr} {od2 an2 : Option Addr} {sl2 : Array (Option Value)} {oc2 kV2 dc2 pm2 cd2 ct2 : Value}
    {f3 : Addr} {od3 an3 : Option Addr} {sl3 : Array (Option Value)} {oc3 kV3 dc3 pm3 cd3 ct3 : Value}
    {f4 : Addr} {od4 an4 : Option Addr} {sl4 : Array (Option Value)} {oc4 kV4 dc4 pm4 cd4 ct4 : Value}
    {f5 : Addr} {od5 an5 : Option Addr} {sl5 : Array (Option Value)} {oc5 kV5 dc5 pm5 cd5 ct5 : Value}
    {f6 : Addr} {od6 an6 : Option Addr} {sl6 : Array (Option Value)} {oc6 kV6 dc6 pm6 cd6 ct6 : Value}
    {f7 : Addr} {od7 an7 : Option Addr} {sl7 : Array (Option Value)} {oc7 kV7 dc7 pm7 cd7 ct7 : Value}
    {f8 : Addr} {od8 an8 : Option Addr} {sl8 : Array (Option Value)} {oc8 kV8 dc8 pm8 cd8 ct8 : Value}
    {f9 : Addr} {od9 an9 : Option Addr} {sl9 : Array (Option Value)} {oc9 kV9 dc9 pm9 cd9 ct9 : Value}
    {f10 : Addr} {od10 an10 : Option Addr} {sl10 : Array (Option Value)} {oc10 kV10 dc10 pm10 cd10 ct10 : Value}
    {f11 : Addr} {od11 an11 : Option Addr} {sl11 : Array (Option Value)} {oc11 kV11 dc11 pm11 cd11 ct11 : Value}
    {C_Saying : Addr}
    {a_WORDS : Addr} {es_WORDS : Array DictEntry} {n_WORDS : Nat} {tv_WORDS_0 : Tok} {tv_WORDS_1 : Tok}
    (g_Saying : PySem.W.nsIn K mainGlobals "Saying" = some (some (.ref C_Saying)))
    (mk_Saying : PySem.W.makesIn K C_Saying = true)
    (kc_Saying : PySem.W.keepIn K (.ref C_Saying) = true)
    (pg_Saying : PySem.W.plainGet K C_Saying Str.empty = true)
    (hd_Saying : PySem.W.hasDictIn K C_Saying = true)
    (po_Saying : PySem.W.plainOver K C_Saying = true)
    (sa_Saying : PySem.W.findIn K (.ref C_Saying) "__setattr__" = some (some (.builtin "object.__setattr__")))
    (o1_Saying : PySem.W.findIn K (.ref C_Saying) "__ne__" = some (some (.builtin "object.__ne__")))
    (o2_Saying : PySem.W.mroIn K C_Saying (.type "object") = some true)
    (o3_Saying : PySem.W.findIn K (.ref C_Saying) "__class__" = some (some (.builtin "object.__class__")))
    (o6_Saying : PySem.W.kitOne K (.ref C_Saying) (.ref C_Saying) = some true)
    (na_Saying_word : PySem.W.findIn K (.ref C_Saying) "word" = some none)
    (na_Saying_left : PySem.W.findIn K (.ref C_Saying) "left" = some none)
    (na_Saying_right : PySem.W.findIn K (.ref C_Saying) "right" = some none)
    (o4 : PySem.W.specialIn K (.builtin "object.__class__") "__get__" = some (some (.builtin "getset_descriptor.__get__")))
    (o5 : PySem.W.takesIn K (.builtin "object.__class__") = some true)
    (a0 : PySem.W.nsIn K mainGlobals "_law_box" = some (some (.ref f0)))
    (l0 : K.lookup f0 = some ⟨oc0, od0, .func (PySem.W.fnOf "_law_box" "_law_box" (defArgs s_f_law_box) (defBody s_f_law_box) (defScope s_f_law_box) .none kV0 dc0 pm0 an0 cd0 ct0), sl0⟩)
    (c0 : PySem.W.codeIn K cd0 "_law_box" = true)
    (k0 : PySem.W.keepIn K (.ref f0) = true)
    (a1 : PySem.W.nsIn K mainGlobals "_law_take" = some (some (.ref f1)))
    (l1 : K.lookup f1 = some ⟨oc1, od1, .func (PySem.W.fnOf "_law_take" "_law_take" (defArgs s_f_law_take) (defBody s_f_law_take) (defScope s_f_law_take) .none kV1 dc1 pm1 an1 cd1 ct1), sl1⟩)
    (c1 : PySem.W.codeIn K cd1 "_law_take" = true)
    (k1 : PySem.W.keepIn K (.ref f1) = true)
    (a2 : PySem.W.nsIn K mainGlobals "_law_pool" = some (some (.ref f2)))
    (l2 : K.lookup f2 = some ⟨oc2, od2, .func (PySem.W.fnOf "_law_pool" "_law_pool" (defArgs s_f_law_pool) (defBody s_f_law_pool) (defScope s_f_law_pool) .none kV2 dc2 pm2 an2 cd2 ct2), sl2⟩)
    (c2 : PySem.W.codeIn K cd2 "_law_pool" = true)
    (k2 : PySem.W.keepIn K (.ref f2) = true)
    (a3 : PySem.W.nsIn K mainGlobals "_law_term" = some (some (.ref f3)))
    (l3 : K.lookup f3 = some ⟨oc3, od3, .func (PySem.W.fnOf "_law_term" "_law_term" (defArgs s_f_law_term) (defBody s_f_law_term) (defScope s_f_law_term) .none kV3 dc3 pm3 an3 cd3 ct3), sl3⟩)
    (c3 : PySem.W.codeIn K cd3 "_law_term" = true)
    (k3 : PySem.W.keepIn K (.ref f3) = true)
    (a4 : PySem.W.findIn K (.ref C_Saying) "__init__" = some (some (.ref f4)))
    (i4 : PySem.W.isFn K (.ref f4) = true)
    (l4 : K.lookup f4 = some ⟨oc4, od4, .func (PySem.W.fnOf "__init__" "Saying.__init__" (defArgs s_f_Saying__init) (defBody s_f_Saying__init) (defScope s_f_Saying__init) .none kV4 dc4 pm4 an4 cd4 ct4), sl4⟩)
    (c4 : PySem.W.codeIn K cd4 "Saying.__init__" = true)
    (k4 : PySem.W.keepIn K (.ref f4) = true)
    (a5 : PySem.W.nsIn K mainGlobals "led" = some (some (.ref f5)))
    (l5 : K.lookup f5 = some ⟨oc5, od5, .func (PySem.W.fnOf "led" "led" (defArgs s_f_led) (defBody s_f_led) (defScope s_f_led) .none kV5 dc5 pm5 an5 cd5 ct5), sl5⟩)
    (c5 : PySem.W.codeIn K cd5 "led" = true)
    (k5 : PySem.W.keepIn K (.ref f5) = true)
    (a6 : PySem.W.nsIn K mainGlobals "renamed" = some (some (.ref f6)))
    (l6 : K.lookup f6 = some ⟨oc6, od6, .func (PySem.W.fnOf "renamed" "renamed" (defArgs s_f_renamed) (defBody s_f_renamed) (defScope s_f_renamed) .none kV6 dc6 pm6 an6 cd6 ct6), sl6⟩)
    (c6 : PySem.W.codeIn K cd6 "renamed" = true)
    (k6 : PySem.W.keepIn K (.ref f6) = true)
    (a7 : PySem.W.nsIn K mainGlobals "_law_led" = some (some (.ref f7)))
    (l7 : K.lookup f7 = some ⟨oc7, od7, .func (PySem.W.fnOf "_law_led" "_law_led" (defArgs s_f_law_led) (defBody s_f_law_led) (defScope s_f_law_led) .none kV7 dc7 pm7 an7 cd7 ct7), sl7⟩)
    (c7 : PySem.W.codeIn K cd7 "_law_led" = true)
    (k7 : PySem.W.keepIn K (.ref f7) = true)
    (a8 : PySem.W.findIn K (.ref C_Saying) "__eq__" = some (some (.ref f8)))
    (i8 : PySem.W.isFn K (.ref f8) = true)
    (l8 : K.lookup f8 = some ⟨oc8, od8, .func (PySem.W.fnOf "__eq__" "Saying.__eq__" (defArgs s_f_Saying__eq) (defBody s_f_Saying__eq) (defScope s_f_Saying__eq) .none kV8 dc8 pm8 an8 cd8 ct8), sl8⟩)
    (c8 : PySem.W.codeIn K cd8 "Saying.__eq__" = true)
    (k8 : PySem.W.keepIn K (.ref f8) = true)
    (a9 : PySem.W.nsIn K mainGlobals "_law_right" = some (some (.ref f9)))
    (l9 : K.lookup f9 = some ⟨oc9, od9, .func (PySem.W.fnOf "_law_right" "_law_right" (defArgs s_f_law_right) (defBody s_f_law_right) (defScope s_f_law_right) .none kV9 dc9 pm9 an9 cd9 ct9), sl9⟩)
    (c9 : PySem.W.codeIn K cd9 "_law_right" = true)
    (k9 : PySem.W.keepIn K (.ref f9) = true)
    (a10 : PySem.W.nsIn K mainGlobals "_law_dict" = some (some (.ref f10)))
    (l10 : K.lookup f10 = some ⟨oc10, od10, .func (PySem.W.fnOf "_law_dict" "_law_dict" (defArgs s_f_law_dict) (defBody s_f_law_dict) (defScope s_f_law_dict) .none kV10 dc10 pm10 an10 cd10 ct10), sl10⟩)
    (c10 : PySem.W.codeIn K cd10 "_law_dict" = true)
    (k10 : PySem.W.keepIn K (.ref f10) = true)
    (a11 : PySem.W.nsIn K mainGlobals "law" = some (some (.ref f11)))
    (l11 : K.lookup f11 = some ⟨oc11, od11, .func (PySem.W.fnOf "law" "law" (defArgs s_f_law) (defBody s_f_law) (defScope s_f_law) .none kV11 dc11 pm11 an11 cd11 ct11), sl11⟩)
    (c11 : PySem.W.codeIn K cd11 "law" = true)
    (k11 : PySem.W.keepIn K (.ref f11) = true)
    (z_len : PySem.W.nsIn K mainGlobals "len" = some none)
    (z_int : PySem.W.nsIn K mainGlobals "int" = some none)
    (z_range : PySem.W.nsIn K mainGlobals "range" = some none)
    (z_isinstance : PySem.W.nsIn K mainGlobals "isinstance" = some none)
    (z_dict : PySem.W.nsIn K mainGlobals "dict" = some none)
    (z_repr : PySem.W.nsIn K mainGlobals "repr" = some none)
    (z_all : PySem.W.nsIn K mainGlobals "all" = some none)
    (z_max : PySem.W.nsIn K mainGlobals "max" = some none)
    (z_min : PySem.W.nsIn K mainGlobals "min" = some none)
    (y_WORDS : PySem.W.nsIn K mainGlobals "WORDS" = some (some (.ref a_WORDS)))
    (ld_WORDS : K.lookup a_WORDS = some ⟨.type "dict", none, .dict es_WORDS n_WORDS, #[]⟩)
    (kl_WORDS : PySem.W.KeysLit w.params es_WORDS.toList)
    (sm_WORDS : (a_WORDS == sysModules) = false)
    (v_WORDS_0 : PySem.W.nsIn K a_WORDS "same" = some (some (.str "=" tv_WORDS_0)))
    (v_WORDS_1 : PySem.W.nsIn K a_WORDS "under" = some (some (.str "under" tv_WORDS_1)))
    : ∃ fd : FuncData, (∀ (s : Shared) (v : Value), BindsTo s fd ⟨[v], []⟩ [("script", v)]) ∧ ∀ base : Heap, K.In base → base.Ns mainGlobals mg → FnG l.prog w K mg base CX0 10 fa fd ["script"] (sp_f_law K) := by
  have e := hfa.symm.trans (PySem.W.mg_of X G a11)
  cases e
  have m_len : mg "len" = none := PySem.W.mg_none_of X G z_len
  have m_int : mg "int" = none := PySem.W.mg_none_of X G z_int
  have m_range : mg "range" = none := PySem.W.mg_none_of X G z_range
  have m_isinstance : mg "isinstance" = none := PySem.W.mg_none_of X G z_isinstance
  have m_dict : mg "dict" = none := PySem.W.mg_none_of X G z_dict
  have m_repr : mg "repr" = none := PySem.W.mg_none_of X G z_repr
  have m_all : mg "all" = none := PySem.W.mg_none_of X G z_all
  have m_max : mg "max" = none := PySem.W.mg_none_of X G z_max
  have m_min : mg "min" = none := PySem.W.mg_none_of X G z_min
  have c_WORDS := PySem.W.mg_of X G y_WORDS
  have d_WORDS : KDs K w a_WORDS ["same", "under"] := by
    refine ⟨sm_WORDS, fun z hz => ?_⟩
    rcases List.mem_cons.mp hz with rfl | hz
    · exact ⟨.str (Str.ofString "="), _, _, _, ld_WORDS, kl_WORDS, v_WORDS_0, ⟨_, rfl⟩⟩
    rcases List.mem_cons.mp hz with rfl | hz
    · exact ⟨.str (Str.ofString "under"), _, _, _, ld_WORDS, kl_WORDS, v_WORDS_1, ⟨_, rfl⟩⟩
    cases hz
  have SC_Saying : ClsN K "Saying" C_Saying ["word", "left", "right"] := ⟨⟨⟨pg_Saying, hd_Saying, po_Saying, sa_Saying⟩, by
    intro f hf
    rcases List.mem_cons.mp hf with rfl | hf
    · exact na_Saying_word
    rcases List.mem_cons.mp hf with rfl | hf
    · exact na_Saying_left
    rcases List.mem_cons.mp hf with rfl | hf
    · exact na_Saying_right
    cases hf⟩, g_Saying⟩
  have OC_Saying : ClsO K C_Saying := ⟨o1_Saying, o2_Saying, o3_Saying, o4, o5, o6_Saying⟩
  have n_Saying := PySem.W.mg_of X G g_Saying
  have F0 := fun_mk (st := s_f_law_box) l0 c0 k0
  have F1 := fun_mk (st := s_f_law_take) l1 c1 k1
  have F2 := fun_mk (st := s_f_law_pool) l2 c2 k2
  have F3 := fun_mk (st := s_f_law_term) l3 c3 k3
  have F4 := fun_mk (st := s_f_Saying__init) l4 c4 k4
  have F5 := fun_mk (st := s_f_led) l5 c5 k5
  have F6 := fun_mk (st := s_f_renamed) l6 c6 k6
  have F7 := fun_mk (st := s_f_law_led) l7 c7 k7
  have F8 := fun_mk (st := s_f_Saying__eq) l8 c8 k8
  have F9 := fun_mk (st := s_f_law_right) l9 c9 k9
  have F10 := fun_mk (st := s_f_law_dict) l10 c10 k10
  have F11 := fun_mk (st := s_f_law) l11 c11 k11
  refine ⟨PySem.W.fnOf "law" "law" (defArgs s_f_law) (defBody s_f_law) (defScope s_f_law) .none kV11 dc11 pm11 an11 cd11 ct11, fun s v => .of_eq rfl, fun base _ _ => ?_⟩
  have O0 : FnG l.prog w K mg base CX0 1 f0 _ ["script", "k"] (sp_f_law_box K) := ok_f_law_box F0 m_len m_int
  have D_f_law_box : Def l.prog w K mg base CX0 "_law_box" 1 ["script", "k"] (sp_f_law_box K) := ⟨f0, _, PySem.W.mg_of X G a0, O0, k0, F0.binds (ps := ["script", "k"]) fun _ _ _ _ _ _ us hl => match us, hl with | [_, _], _ => rfl⟩
  have O1 : FnG l.prog w K mg base CX0 1 f1 _ ["box", "wide"] (sp_f_law_take K) := ok_f_law_take F1
  have D_f_law_take : Def l.prog w K mg base CX0 "_law_take" 1 ["box", "wide"] (sp_f_law_take K) := ⟨f1, _, PySem.W.mg_of X G a1, O1, k1, F1.binds (ps := ["box", "wide"]) fun _ _ _ _ _ _ us hl => match us, hl with | [_, _], _ => rfl⟩
  have O2 : FnG l.prog w K mg base CX0 2 f2 _ ["box", "many"] (sp_f_law_pool K) := ok_f_law_pool F2 D_f_law_take m_range m_len
  have D_f_law_pool : Def l.prog w K mg base CX0 "_law_pool" 2 ["box", "many"] (sp_f_law_pool K) := ⟨f2, _, PySem.W.mg_of X G a2, O2, k2, F2.binds (ps := ["box", "many"]) fun _ _ _ _ _ _ us hl => match us, hl with | [_, _], _ => rfl⟩
  have R3 : ∀ m : Nat, FnG l.prog w K mg base CX0 (1 + m) f3 (PySem.W.fnOf "_law_term" "_law_term" (defArgs s_f_law_term) (defBody s_f_law_term) (defScope s_f_law_term) .none kV3 dc3 pm3 an3 cd3 ct3) ["box", "pool", "down"] (spR_f_law_term K m) := by
    intro m
    induction m with
    | zero => exact FnG.no (fun _ _ _ _ h => h)
    | succ m ih =>
      have D_f_law_term : Def l.prog w K mg base CX0 "_law_term" (1 + m) ["box", "pool", "down"] (spR_f_law_term K m) := ⟨f3, _, PySem.W.mg_of X G a3, ih, k3, F3.binds (ps := ["box", "pool", "down"]) fun _ _ _ _ _ _ us hl => match us, hl with | [_, _, _], _ => rfl⟩
      exact ok_f_law_term F3 D_f_law_take D_f_law_term m_len
  have O3 : FnG l.prog w K mg base CX0 6 f3 _ ["box", "pool", "down"] (sp_f_law_term K) := R3 5
  have D_f_law_term : Def l.prog w K mg base CX0 "_law_term" 7 ["box", "pool", "down"] (sp_f_law_term K) := ⟨f3, _, PySem.W.mg_of X G a3, O3.mono (by omega), k3, F3.binds (ps := ["box", "pool", "down"]) fun _ _ _ _ _ _ us hl => match us, hl with | [_, _, _], _ => rfl⟩
  have O4 : FnG l.prog w K mg base CX0 1 f4 _ ["self", "word", "left", "right"] (sp_f_Saying__init K) := ok_f_Saying__init F4 c_WORDS d_WORDS
  have G_Saying : DefM l.prog w K mg base CX0 "Saying" 1 ["self", "word", "left", "right"] (sp_f_Saying__init K) C_Saying := ⟨f4, _, PySem.W.mg_of X G g_Saying, ⟨mk_Saying, a4, i4, kc_Saying⟩, O4, F4.binds (ps := ["self", "word", "left", "right"]) fun _ _ _ _ _ _ us hl => match us, hl with | [_, _, _, _], _ => rfl⟩
  have R5 : ∀ m : Nat, FnG l.prog w K mg base CX0 (0 + m) f5 (PySem.W.fnOf "led" "led" (defArgs s_f_led) (defBody s_f_led) (defScope s_f_led) .none kV5 dc5 pm5 an5 cd5 ct5) ["term", "names"] (spR_f_led K m) := by
    intro m
    induction m with
    | zero => exact FnG.no (fun _ _ _ _ h => h)
    | succ m ih =>
      have D_f_led : Def l.prog w K mg base CX0 "led" (0 + m) ["term", "names"] (spR_f_led K m) := ⟨f5, _, PySem.W.mg_of X G a5, ih, k5, F5.binds (ps := ["term", "names"]) fun _ _ _ _ _ _ us hl => match us, hl with | [_, _], _ => rfl⟩
      exact ok_f_led F5 D_f_led
  have O5 : FnG l.prog w K mg base CX0 6 f5 _ ["term", "names"] (sp_f_led K) := R5 6
  have D_f_led : Def l.prog w K mg base CX0 "led" 7 ["term", "names"] (sp_f_led K) := ⟨f5, _, PySem.W.mg_of X G a5, O5.mono (by omega), k5, F5.binds (ps := ["term", "names"]) fun _ _ _ _ _ _ us hl => match us, hl with | [_, _], _ => rfl⟩
  have O6 : FnG l.prog w K mg base CX0 8 f6 _ ["saying", "names"] (sp_f_renamed K) := ok_f_renamed F6 G_Saying SC_Saying D_f_led
  have D_f_renamed : Def l.prog w K mg base CX0 "renamed" 8 ["saying", "names"] (sp_f_renamed K) := ⟨f6, _, PySem.W.mg_of X G a6, O6, k6, F6.binds (ps := ["saying", "names"]) fun _ _ _ _ _ _ us hl => match us, hl with | [_, _], _ => rfl⟩
  have DK_f_renamed_names : DefK l.prog w K mg base CX0 "renamed" 8 ["saying", "names"] ["names"] gk_f_renamed_names (sp_f_renamed K) := ⟨f6, _, _, PySem.W.mg_of X G a6, O6, k6, kb_f_renamed_names F6⟩
  have R7 : ∀ m : Nat, FnG l.prog w K mg base CX0 (0 + m) f7 (PySem.W.fnOf "_law_led" "_law_led" (defArgs s_f_law_led) (defBody s_f_law_led) (defScope s_f_law_led) .none kV7 dc7 pm7 an7 cd7 ct7) ["term", "given"] (spR_f_law_led K m) := by
    intro m
    induction m with
    | zero => exact FnG.no (fun _ _ _ _ h => h)
    | succ m ih =>
      have D_f_law_led : Def l.prog w K mg base CX0 "_law_led" (0 + m) ["term", "given"] (spR_f_law_led K m) := ⟨f7, _, PySem.W.mg_of X G a7, ih, k7, F7.binds (ps := ["term", "given"]) fun _ _ _ _ _ _ us hl => match us, hl with | [_, _], _ => rfl⟩
      exact ok_f_law_led F7 D_f_law_led
  have O7 : FnG l.prog w K mg base CX0 6 f7 _ ["term", "given"] (sp_f_law_led K) := R7 6
  have D_f_law_led : Def l.prog w K mg base CX0 "_law_led" 7 ["term", "given"] (sp_f_law_led K) := ⟨f7, _, PySem.W.mg_of X G a7, O7.mono (by omega), k7, F7.binds (ps := ["term", "given"]) fun _ _ _ _ _ _ us hl => match us, hl with | [_, _], _ => rfl⟩
  have O8 : FnG l.prog w K mg base CX0 1 f8 _ ["self", "other"] (sp_f_Saying__eq K) := ok_f_Saying__eq F8 n_Saying SC_Saying OC_Saying m_isinstance
  have M_Saying_eq : DefO l.prog w K mg base CX0 C_Saying "__eq__" 1 ["self", "other"] (sp_f_Saying__eq K) := ⟨f8, _, a8, i8, O8, F8.binds (ps := ["self", "other"]) fun _ _ _ _ _ _ us hl => match us, hl with | [_, _], _ => rfl⟩
  have O9 : FnG l.prog w K mg base CX0 9 f9 _ ["said", "given"] (sp_f_law_right K) := ok_f_law_right F9 D_f_renamed G_Saying SC_Saying D_f_law_led M_Saying_eq OC_Saying DK_f_renamed_names n_Saying m_dict m_isinstance m_repr
  have D_f_law_right : Def l.prog w K mg base CX0 "_law_right" 9 ["said", "given"] (sp_f_law_right K) := ⟨f9, _, PySem.W.mg_of X G a9, O9, k9, F9.binds (ps := ["said", "given"]) fun _ _ _ _ _ _ us hl => match us, hl with | [_, _], _ => rfl⟩
  have O10 : FnG l.prog w K mg base CX0 2 f10 _ ["box", "pool"] (sp_f_law_dict K) := ok_f_law_dict F10 D_f_law_take m_range
  have D_f_law_dict : Def l.prog w K mg base CX0 "_law_dict" 2 ["box", "pool"] (sp_f_law_dict K) := ⟨f10, _, PySem.W.mg_of X G a10, O10, k10, F10.binds (ps := ["box", "pool"]) fun _ _ _ _ _ _ us hl => match us, hl with | [_, _], _ => rfl⟩
  exact ok_f_law F11 D_f_law_box D_f_law_pool D_f_law_take D_f_law_term D_f_law_right D_f_law_dict m_range m_all m_max m_min m_len
end Rs
open PySem PySem.W PyProof.Rows
set_option maxHeartbeats 0 in
theorem PySem.Challenge.cw_runsums_k67_names_given_way_holds : PySem.Challenge.rw_runsums_k67_names_given_way.Holds := by
  w_on; o_law; k_head; (case hw => w_witness2)
  k_fill
  refine Rs.walk_g (l := PySem.Challenge.rw_runsums_k67_names_given_way) (n := 63) (k := 10) (x := "script") (CX := fun _ => L2.CX0) (sp := fun w => Rs.sp_f_law _) rfl (by decide) rfl ⟨⟨rfl, by decide, by decide⟩, rfl, by decide⟩ (fun w h Y => PySem.W.kIn_of Y) ?F (fun _ _ a ns hl hO hS => ⟨a, ns, rfl, Rs.SqF.of hO hS, hl, fun _ => rfl⟩) (fun _ _ _ _ _ h => h)
  case F =>
    intro w mg fa h KX G hmg
    refine' Rs.all_mk KX G hmg ?g_Saying ?mk_Saying ?kc_Saying ?pg_Saying ?hd_Saying ?po_Saying ?sa_Saying ?o1_Saying ?o2_Saying ?o3_Saying ?o6_Saying ?na_Saying_word ?na_Saying_left ?na_Saying_right ?o4 ?o5 ?a0 ?l0 ?c0 ?k0 ?a1 ?l1 ?c1 ?k1 ?a2 ?l2 ?c2 ?k2 ?a3 ?l3 ?c3 ?k3 ?a4 ?i4 ?l4 ?c4 ?k4 ?a5 ?l5 ?c5 ?k5 ?a6 ?l6 ?c6 ?k6 ?a7 ?l7 ?c7 ?k7 ?a8 ?i8 ?l8 ?c8 ?k8 ?a9 ?l9 ?c9 ?k9 ?a10 ?l10 ?c10 ?k10 ?a11 ?l11 ?c11 ?k11 ?z_len ?z_int ?z_range ?z_isinstance ?z_dict ?z_repr ?z_all ?z_max ?z_min ?y_WORDS ?ld_WORDS ?kl_WORDS ?sm_WORDS ?v_WORDS_0 ?v_WORDS_1
    (case g_Saying => k_is)
    (case mk_Saying => k_is)
    (case kc_Saying => k_is)
    (case pg_Saying => k_is)
    (case hd_Saying => k_is)
    (case po_Saying => k_is)
    (case sa_Saying => k_is)
    (case o1_Saying => k_is)
    (case o2_Saying => k_is)
    (case o3_Saying => k_is)
    (case o6_Saying => exact if_pos (beq_self_eq_true _))
    (case na_Saying_word => k_is)
    (case na_Saying_left => k_is)
    (case na_Saying_right => k_is)
    (case o4 => k_is)
    (case o5 => k_is)
    (case a0 => k_is)
    (case l0 => k_is)
    (case c0 => k_is)
    (case k0 => k_is)
    (case a1 => k_is)
    (case l1 => k_is)
    (case c1 => k_is)
    (case k1 => k_is)
    (case a2 => k_is)
    (case l2 => k_is)
    (case c2 => k_is)
    (case k2 => k_is)
    (case a3 => k_is)
    (case l3 => k_is)
    (case c3 => k_is)
    (case k3 => k_is)
    (case a4 => k_is)
    (case i4 => k_is)
    (case l4 => k_is)
    (case c4 => k_is)
    (case k4 => k_is)
    (case a5 => k_is)
    (case l5 => k_is)
    (case c5 => k_is)
    (case k5 => k_is)
    (case a6 => k_is)
    (case l6 => k_is)
    (case c6 => k_is)
    (case k6 => k_is)
    (case a7 => k_is)
    (case l7 => k_is)
    (case c7 => k_is)
    (case k7 => k_is)
    (case a8 => k_is)
    (case i8 => k_is)
    (case l8 => k_is)
    (case c8 => k_is)
    (case k8 => k_is)
    (case a9 => k_is)
    (case l9 => k_is)
    (case c9 => k_is)
    (case k9 => k_is)
    (case a10 => k_is)
    (case l10 => k_is)
    (case c10 => k_is)
    (case k10 => k_is)
    (case a11 => k_is)
    (case l11 => k_is)
    (case c11 => k_is)
    (case k11 => k_is)
    (case z_len => k_is)
    (case z_int => k_is)
    (case z_range => k_is)
    (case z_isinstance => k_is)
    (case z_dict => k_is)
    (case z_repr => k_is)
    (case z_all => k_is)
    (case z_max => k_is)
    (case z_min => k_is)
    (case y_WORDS => k_is)
    (case ld_WORDS => k_is)
    (case kl_WORDS => exact ⟨⟨_, _, rfl, rfl⟩, ⟨_, _, rfl, rfl⟩, trivial⟩)
    (case sm_WORDS => first | rfl | decide)
    (case v_WORDS_0 => k_is)
    (case v_WORDS_1 => k_is)
