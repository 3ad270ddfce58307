import PyProof.Rows.All
import Wide.All
import OpenK.AllK
import Wide.FinOn
import HandS.ForMost
import HandS.ForExc
import HandS.Flow
import HandS.Style
import HandS.Wide
import HandS.WideMore
import HandS.WideBits
import HandS.IsInst
import HandS.Rev
import HandS.Walk
import HandS.IntHex
import HandS.SortKw
import KE.GoesEnumKw
import HandS.Zip
import KE.GoesMore
import HandS.More
import HandS.DictComp
import HandS.ListItems
import HandS.TupAny
import HandS.Defaults
import PyProof.P3Eq
import PyProof.Rows.StrCountLaw
import HandS.OwnEq
import PySem.Challenge.RW_runsums_k88_arguments_by_names
set_option Elab.async false
set_option linter.all false
set_option maxRecDepth 100000
set_option maxHeartbeats 4000000
set_option exponentiation.threshold 20000

namespace Rs
open PySem L2 PyProof.Rows
abbrev Sm := L2.Same
/-! ### rules side by side -/
section
variable {X : Cx}
theorem op_or {f : Value → Value → Sem Value} {r r' : R2} (h : OpR X f r) (h' : OpR X f r') : OpR X f (fun x y H Q => r x y H Q ∨ r' x y H Q) := by
  intro pins s σ H x y v u Q I rx ry q
  rcases q with q | q
  · exact h pins s σ H x y v u Q I rx ry q
  · exact h' pins s σ H x y v u Q I rx ry q
theorem cr_or {f : Value} {r r' : List V → Hp → VK → Prop} (h : CallR X f r) (h' : CallR X f r') : CallR X f (fun xs H Q => r xs H Q ∨ r' xs H Q) := by
  intro pins s σ H xs us Q I rx q
  rcases q with q | q
  · exact h pins s σ H xs us Q I rx q
  · exact h' pins s σ H xs us Q I rx q
def gAdd (K : PySem.W.Frag) : R2 := fun x y H Q => rI0 (fun i j => .int (i + j)) x y H Q ∨ ((∃ i j, x = .str i ∧ y = .str j ∧ i.length + j.length ≤ sizeLine ∧ Q (.str (i ++ j)) H) ∨ (rCat x y H Q ∨ rCatA K x y H Q))
theorem op_gAdd {K : PySem.W.Frag} (hK : X.K = K) : OpR X (binaryOp .Add) (gAdd K) := by subst hK; exact op_or op_add (op_or op_add_str (op_or op_cat op_catA))
def CM (i j : Int) : Prop := CMul i j ∨ CMulX i j
def gMul : R2 := fun x y H Q => rI CMul (fun i j => .int (i * j)) x y H Q ∨ (rI CMulX (fun i j => .int (i * j)) x y H Q ∨ rRep x y H Q)
theorem op_gMul : OpR X (binaryOp .Mult) gMul := op_or op_mul (op_or op_mulX op_rep)
def gMulS : R2 := fun x y H Q => ∃ a n, x = .str a ∧ y = .int n ∧ MulOk a n ∧ Q (.str (Txt.mul a n)) H
theorem op_gMulS : OpR X (binaryOp .Mult) gMulS := by
  intro pins s σ H x y u v Q I rx ry h
  obtain ⟨a, n, rfl, rfl, hok, q⟩ := h
  obtain ⟨t, rfl⟩ := rx
  obtain ⟨t', rfl⟩ := ry
  exact SB.mul hok fun t' k => ⟨.str _, H, I.tok _, ⟨_, rfl⟩, q⟩
def gDiv : R2 := fun x y H Q => rI CDivW (fun i j => .int (i / j)) x y H Q
theorem op_gDiv : OpR X (binaryOp .FloorDiv) gDiv := op_fdivW
def gMod : R2 := rI (fun _ j => 0 < j) fun i j => .int (i % j)
theorem op_gMod : OpR X (binaryOp .Mod) gMod := op_mod
def gShl : R2 := rI CShl fun i j => .int (i * 2 ^ j.toNat)
theorem op_gShl : OpR X (binaryOp .LShift) gShl := op_shlW
def gPow : R2 := rI CPow fun i j => .int (i ^ j.toNat)
theorem op_gPow : OpR X (binaryOp .Pow) gPow := op_pow
def gShr : R2 := rI (fun _ j => 0 ≤ j) fun i j => .int (i / 2 ^ j.toNat)
theorem op_gShr : OpR X (binaryOp .RShift) gShr := op_shr
def gAnd : R2 := rI0 fun i j => .int (Builtin.bitAnd i j)
theorem op_gAnd : OpR X (binaryOp .BitAnd) gAnd := op_and
def gLt : R2 := rI0 fun i j => .bl (decide (i < j))
theorem op_gLt : OpR X (compareOp .Lt) gLt := op_lt
def gLe : R2 := rI0 fun i j => .bl (decide (i ≤ j))
theorem op_gLe : OpR X (compareOp .LtE) gLe := op_le
def gGt : R2 := rI0 fun i j => .bl (decide (j < i))
theorem op_gGt : OpR X (compareOp .Gt) gGt := op_gt
def gGe : R2 := rI0 fun i j => .bl (decide (j ≤ i))
theorem op_gGe : OpR X (compareOp .GtE) gGe := op_ge
def gEq (K : PySem.W.Frag) : R2 := fun x y H Q => rEq x y H Q ∨ rEqD K x y H Q
theorem op_gEq {K : PySem.W.Frag} (hK : X.K = K) (hu : X.A.units + 64 < cLine) : OpR X (compareOp .Eq) (gEq K) := by subst hK; exact op_or op_eq (op_eqD hu)
def gNe (K : PySem.W.Frag) : R2 := fun x y H Q => rNe x y H Q ∨ rNeD K x y H Q
theorem op_gNe {K : PySem.W.Frag} (hK : X.K = K) (hu : X.A.units + 64 < cLine) : OpR X (compareOp .NotEq) (gNe K) := by subst hK; exact op_or op_ne (op_neD hu)
def gLen (K : PySem.W.Frag) : List V → Hp → VK → Prop := fun xs H Q => (∃ p ys, xs = [.ref p] ∧ (SqL K H p ys ∨ SqT K H p ys) ∧ Q (.int ys.length) H) ∨ (∃ z, xs = [.str z] ∧ z.length ≤ sizeLine ∧ Q (.int z.length) H)
theorem call_gLen {K : PySem.W.Frag} (hK : X.K = K) : CallR X (.builtin "len") (gLen K) := by subst hK; exact cr_or call_len_seq call_len_str
theorem call_gIsi {K : PySem.W.Frag} (hK : X.K = K) : CallR X (.builtin "isinstance") (rIsi K) := by subst hK; exact call_isi
theorem ix_g {K : PySem.W.Frag} (hK : X.K = K) : IxR X (rIx K) := by subst hK; exact ix_seq
def gSl (K : PySem.W.Frag) : V → Option Int → Option Int → Hp → VK → Prop := fun x lo hi H Q => rSlL K x lo hi H Q ∨ rSlA K x lo hi H Q
theorem sl_gl {K : PySem.W.Frag} (hK : X.K = K) : SlR X (gSl K) := by subst hK; exact SlR.or sl_list sl_tupA
theorem sl_gt {K : PySem.W.Frag} (hK : X.K = K) : SlR X (rSlT K) := by subst hK; exact sl_tup
theorem pi_gl {K : PySem.W.Frag} (hK : X.K = K) {tg l : Expr} {tl : TE} (hl : PE X l tl) : PI X tg l (iList K tl) := by subst hK; exact pi_list hl
theorem pi_gt {K : PySem.W.Frag} (hK : X.K = K) {tg l : Expr} {tl : TE} (hl : PE X l tl) : PI X tg l (iTup K tl) := by subst hK; exact pi_tup hl
theorem op_gInSeq {K : PySem.W.Frag} (hK : X.K = K) : OpR X (compareOp .In) (rIn K false) := by subst hK; exact op_in_seq
theorem op_gNotInSeq {K : PySem.W.Frag} (hK : X.K = K) : OpR X (compareOp .NotIn) (rIn K true) := by subst hK; exact op_notIn_seq
def gTup2 (K : PySem.W.Frag) (n : Nat) (t : TGs) : TG := gTup K n t
theorem pg_gt {K : PySem.W.Frag} (hK : X.K = K) {es : List Expr} {k : Nat} {pos : Pos} {t : TGs} {n : Nat} (hc : X.calm = true) (h : PGs X es t) (hl : (assignEach es X.env).length = n := by rfl) (hst : (assignEach es X.env).findIdx? (·.1) = none := by rfl) :
    PG X (.Tuple es k pos) (gTup2 K n t) := by subst hK; exact pg_tup hc h hl hst
theorem pe_gbm {K : PySem.W.Frag} (hK : X.K = K) {o e : Expr} {es : List Expr} {to : TE} {t : TA} {name : Str} {apos cpos : Pos} {T id : String} {r : V → List V → Hp → VK → Prop} (pa : PlainAttrs T) (slot : Slot T name id) (hty : typeOf (.builtin id) = pure (.type "method_descriptor")) (hm : MtR X id r) (ho : PE X o to) (ha : PA X (e :: es) t)
    (hbase : attributeBase o name X.env (eval o X.env) = eval o X.env := by rfl)
    (hfew : ((backTo cpos (starEach (e :: es) X.env)).all (fun x => !x.1) && (backToKw cpos (keywordEach [] X.env)).all (fun x => x.1.isSome)
      && decide ((e :: es).length + ([] : List Keyword).length + (if ([] : List Keyword).isEmpty then 0 else 1) < 30)) = true := by rfl)
    (hline : (apos.endLine == cpos.line) = true := by rfl) (hs : starEach (e :: es) X.env = (false, eval e X.env) :: starEach es X.env := by rfl) (hplain : (backTo cpos (starEach es X.env)).any (·.1) = false := by rfl) :
    PE X (.Call (.Attribute o name apos) (e :: es) [] cpos) (tBM K T r to t) := by subst hK; exact pe_bm pa slot hty hm ho ha hbase hfew hline hs hplain
theorem pe_gbm0 {K : PySem.W.Frag} (hK : X.K = K) {o : Expr} {to : TE} {name : Str} {apos cpos : Pos} {T id : String} {r : V → List V → Hp → VK → Prop} (pa : PlainAttrs T) (slot : Slot T name id) (hty : typeOf (.builtin id) = pure (.type "method_descriptor")) (hm : MtR X id r) (ho : PE X o to)
    (hbase : attributeBase o name X.env (eval o X.env) = eval o X.env := by rfl) (hline : (apos.endLine == cpos.line) = true := by rfl) : PE X (.Call (.Attribute o name apos) [] [] cpos) (tBM0 K T r to) := by subst hK; exact pe_bm0 pa slot hty hm ho hbase hline
def gTpl (K : PySem.W.Frag) : List V → Hp → VK → Prop := (fun xs H Q => ∃ p ys, xs = [.ref p] ∧ ((SqL K H p ys ∧ ∀ l, H l = none → Q (.ref l) (upd H l (.tup ys))) ∨ (SqT K H p ys ∧ Q (.ref p) H)))
def gLst (K : PySem.W.Frag) : List V → Hp → VK → Prop := (fun xs H Q => ∃ p ys, xs = [.ref p] ∧ (SqL K H p ys ∨ SqT K H p ys) ∧ ∀ l, H l = none → Q (.ref l) (upd H l (.lst ys)))
theorem call_gTuple {K : PySem.W.Frag} (hK : X.K = K) : CallR X (.type "tuple") (gTpl K) := by subst hK; exact call_tuple_of
theorem call_gList {K : PySem.W.Frag} (hK : X.K = K) : CallR X (.type "list") (gLst K) := by subst hK; exact call_list_of
theorem iop_mulX : OpR X (inplaceOp .Mult) (rI CMulX fun i j => .int (i * j)) := opI fun _ _ _ _ _ _ _ hc q => imul_int q hc.ok
def gIAdd : R2 := fun x y H Q => rI0 (fun i j => .int (i + j)) x y H Q ∨ (∃ i j, x = .str i ∧ y = .str j ∧ i.length + j.length ≤ sizeLine ∧ Q (.str (i ++ j)) H)
def gIMul : R2 := fun x y H Q => rI CMul (fun i j => .int (i * j)) x y H Q ∨ rI CMulX (fun i j => .int (i * j)) x y H Q
def gXor : R2 := rI0 fun i j => .int (Builtin.bitXor i j)
theorem ip_gAdd : PIp X .Add gIAdd := op_or iop_add iop_add_str
theorem ip_gMul : PIp X .Mult gIMul := op_or iop_mul iop_mulX
theorem ip_gDiv : PIp X .FloorDiv gDiv := iop_fdivW
theorem ip_gShr : PIp X .RShift gShr := iop_shr
theorem ip_gShl : PIp X .LShift gShl := iop_shlW
theorem op_gXor {X : Cx} : OpR X (binaryOp .BitXor) gXor := op_xor
theorem ip_gXor : PIp X .BitXor gXor := iop_xor
theorem ip_gAnd : PIp X .BitAnd gAnd := iop_and
theorem ip_gSub : PIp X .Sub (rI0 fun i j => .int (i - j)) := iop_sub
def gIntC : List V → Hp → VK → Prop := fun xs H Q => (∃ i, xs = [.int i] ∧ Q (.int i) H) ∨ ∃ k, xs = [.bl k] ∧ Q (.int (if k then 1 else 0)) H
theorem call_gInt : CallR X (.type "int") gIntC := call_int1
def gMax : List V → Hp → VK → Prop := fun xs H Q => ∃ i j, xs = [.int i, .int j] ∧ Q (.int (if j > i then j else i)) H
theorem call_gMax (hc : X.calm = true) : CallR X (.builtin "max") gMax := call_max2 hc
def gMin : List V → Hp → VK → Prop := fun xs H Q => ∃ i j, xs = [.int i, .int j] ∧ Q (.int (if j < i then j else i)) H
theorem call_gMin (hc : X.calm = true) : CallR X (.builtin "min") gMin := call_min2 hc
end
/-! ### a def's promise where nothing is being shown (no repr under way) -/
structure RoomG (k : Nat) (A : Around) : Prop where
  rm : Room k A
  gd : A.guards = some []
  un : A.units + 16 * k + 6000 < cLine
theorem RoomG.mono {j k : Nat} {A : Around} (r : RoomG k A) (h : j ≤ k) : RoomG j A := ⟨r.rm.mono h, r.gd, by have := r.un; omega⟩
theorem RoomG.units {k : Nat} {A : Around} (r : RoomG k A) : A.units + 64 < cLine := r.rm.units
theorem RoomG.big {k : Nat} {A : Around} (r : RoomG k A) : A.units + 5000 < cLine := by have := r.un; omega
theorem RoomG.down {k : Nat} {A : Around} (r : RoomG (k + 1) A) (v : Env) : RoomG k (A.deeper v) := ⟨r.rm.deeper v, r.gd, by have := r.un; show A.units + 3 + 16 * k + 6000 < _; omega⟩
theorem RoomG.in1 {k : Nat} {A : Around} (r : RoomG (k + 1) A) : RoomG k A.in1 := ⟨r.rm.in1, r.gd, by have := r.un; show A.units + 1 + 16 * k + 6000 < _; omega⟩
structure FnG (P : Program) (w : World) (K : PySem.W.Frag) (mg : Str → Option Value) (base : Heap) (CX : CXT) (k : Nat) (f : Addr) (fd : FuncData) (ps : List Str) (sp : Sp) : Prop where
  ln : ∀ vs H Q E, sp vs H Q E → vs.length = ps.length
  go : ∀ (A : Around) (ou : List Env) (z : Shared) (H : Hp) (ar : Args) (us : List Value) (vs : List V) (Q : VK) (E : XK), RoomG k A → Env0 P w K mg base A ou z H → BindsTo z fd ar (ps.zip us) → Vals vs us → sp vs H Q E →
    codeAny (model P w) A (.call (.ref f) ar) (CR CX ou P w H z Q E) z
theorem FnG.of {P : Program} {w : World} {K : PySem.W.Frag} {mg : Str → Option Value} {base : Heap} {CX : CXT} {k : Nat} {f : Addr} {fd : FuncData} {ps : List Str} {sp : Sp} (F : FnOk P w K mg base CX k f fd ps sp) : FnG P w K mg base CX k f fd ps sp :=
  ⟨F.len, fun A ou z H ar us vs Q E hr => F.run A ou z H ar us vs Q E hr.rm⟩
/-- a call's end is what the caller wants -/
theorem aft {X : Cx} {CX : CXT} {pins : List (Addr × Obj)} {σ : L2.St} {H : Hp} {s : Shared} {Q : VK} {E : XK} (hx : Passes CX X E) (I : Inv X pins σ H s) {r : Result} {z : Shared} (h : CR CX X.stack X.prog X.w H s Q E r z) :
    callEnd (EP X pins σ Q) X.xe r z := by
  cases r with
  | error e => exact hx pins σ H s e z I h
  | ok fl => cases fl with
    | ret u => exact I.after h
    | next => exact h.elim
    | brk => exact h.elim
    | cont => exact h.elim
theorem run_g {X : Cx} {CX : CXT} {k : Nat} {f : Addr} {fd : FuncData} {ps : List Str} {sp : Sp} {E : XK} {pins : List (Addr × Obj)} {σ : L2.St} {H : Hp} {s : Shared} {Q : VK} {us : List Value} {vs : List V}
    (F : FnG X.prog X.w X.K X.mg X.base CX k f fd ps sp) (hr : RoomG k X.A) (hb : Binds X.K fd ps []) (hx : Passes CX X E) (I : Inv X pins σ H s) (r : Vals vs us) (h : sp (vs ++ []) H Q E) : wpAny (model X.prog X.w) X.A (call (.ref f) us) (EP X pins σ Q) X.xe s := by
  have q := r.append (show Vals [] [] from .nil)
  exact wpAny_call (codeAny_mono (F.go X.A X.stack s H ⟨us, []⟩ (us ++ []) (vs ++ []) Q E hr I.env0 (hb s us I.kIn (q.length.symm.trans (F.ln _ _ _ _ h))) q h) fun _ _ y => aft hx I y)
theorem run_gk {X : Cx} {CX : CXT} {k : Nat} {f : Addr} {fd : FuncData} {ps ks : List Str} {sp : Sp} {g : List Value → List Value → List Value} {gV : List V → List V → List V} {E : XK} {pins : List (Addr × Obj)} {σ : L2.St} {H : Hp} {s : Shared} {Q : VK} {us ws : List Value} {vs zs : List V}
    (F : FnG X.prog X.w X.K X.mg X.base CX k f fd ps sp) (hr : RoomG k X.A) (hb : KBinds X.K fd ps ks g gV) (hx : Passes CX X E) (I : Inv X pins σ H s) (r : Vals vs us) (rz : Vals zs ws) (h : sp (gV vs zs) H Q E) :
    wpAny (model X.prog X.w) X.A (call (.ref f) us (ks.zip ws)) (EP X pins σ Q) X.xe s := by
  have q := hb.rel r rz
  exact wpAny_call (codeAny_mono (F.go X.A X.stack s H ⟨us, ks.zip ws⟩ (g us ws) (gV vs zs) Q E hr I.env0 (hb.to s us ws I.kIn (q.length.symm.trans (F.ln _ _ _ _ h))) q h) fun _ _ y => aft hx I y)
theorem fn_g {CX : CXT} {P : Program} {w : World} {K : PySem.W.Frag} {mg : Str → Option Value} {base : Heap} {k : Nat} {f : Addr} {nm qu : Str} {pr : Arguments} {bd : List Stmt} {sc : Scope} {dV kV dc pm cd ct oc : Value} {an od : Option Addr} {sl : Array (Option Value)} {N ps : List Str} {sp : Sp}
    (lk : K.lookup f = some ⟨oc, od, .func (PySem.W.fnOf nm qu pr bd sc dV kV dc pm an cd ct), sl⟩) (hc : PySem.W.codeIn K cd qu = true) (S : FnScope N ps sc) (ln : ∀ vs H Q E, sp vs H Q E → vs.length = ps.length)
    (hb : ∀ (A : Around) (ou : List Env) (z : Shared) (H : Hp) (vs : List V) (Q : VK) (E : XK), RoomG k (A.deeper (envOfC qu sc z.heap.objs.size f cd)) → sp vs H Q E → ∃ t, PSs (cxOf CX P w K mg base N qu sc f cd A ou z H E) bd t ∧ t { nx := fun _ H' => Q .non H', rt := Q } (start N vs) H) :
    FnG P w K mg base CX (k + 1) f (PySem.W.fnOf nm qu pr bd sc dV kV dc pm an cd ct) ps sp := by
  refine ⟨ln, fun A ou z H ar us vs Q E hr e0 bt r hs => ?_⟩
  have hl := ln _ _ _ _ hs
  have old : ∀ b o, base.get? b = some o → z.heap.get? b = some o := fun b o e => (e0.bs b o e).1
  have kz := e0.mod.kin.keeps old
  have lim := e0.mod.nolimit.keeps old
  have hk : ∀ y ∈ ps.zip us, sc.names.lookup y.1 = some .local ∨ (sc.names.lookup y.1 = some .cell ∧ ((cellsFrom (z.heap.objs.size + 1) sc.names []).lookup y.1).isSome = true) := by
    intro y hy
    rcases S.par y.1 (List.of_mem_zip hy).1 with q | q
    · exact .inl q
    · exact .inr ⟨q, PySem.W.cellsFrom_some _ _ _ (.inl q)⟩
  refine codeAny_call_function hr.rm.depth (kz _ _ lk) rfl S.co S.gen rfl (PySem.W.codeRec_of kz hc) (bt _ _ _ _ (wpAny_newFunctionEnv_cells S.kind hk fun v hv z1 x => ?_))
  subst hv
  refine ⟨lim.keeps x.toInCall.keep, codeAny_func ?_⟩
  obtain ⟨t, ht, hq⟩ := hb A ou z H vs Q E (hr.down _) hs
  refine wpAny_mono (ht.run [] z1 (start N vs) H _ (inv_start S hr.rm.hd e0 hl r x) hq) (fun fl z2 y => ?_) fun _ _ y => y
  cases fl with
  | ret u =>
    obtain ⟨v, σ', H', J, rv, q⟩ := y
    exact ⟨v, H', J.os, J.bare, J.base, J.hok, rv, q⟩
  | next =>
    obtain ⟨σ', H', J, q⟩ := y
    exact ⟨V.non, H', J.os, J.bare, J.base, J.hok, rfl, q⟩
  | brk => exact y.elim fun _ y => y.elim fun _ y => y.2.elim
  | cont => exact y.elim fun _ y => y.elim fun _ y => y.2.elim
theorem okG {CX : CXT} {P : Program} {w : World} {K : PySem.W.Frag} {mg : Str → Option Value} {base : Heap} {x qu : Str} {st : Stmt} {f : Addr} {fd : FuncData} {N ps : List Str} {k : Nat} {sp : Sp} (F : Fun K x qu st f fd) (S : FnScope N ps (defScope st)) (ln : ∀ vs H Q E, sp vs H Q E → vs.length = ps.length)
    (hb : ∀ (cd : Value) (A : Around) (ou : List Env) (z : Shared) (H : Hp) (vs : List V) (Q : VK) (E : XK), RoomG k (A.deeper (envOfC qu (defScope st) z.heap.objs.size f cd)) → sp vs H Q E →
      ∃ t, PSs (cxOf CX P w K mg base N qu (defScope st) f cd A ou z H E).nox (defBody st) t ∧ t { nx := fun _ H' => Q .non H', rt := Q } (start N vs) H) : FnG P w K mg base CX (k + 1) f fd ps sp := by
  obtain ⟨oc, od, kV, dc, pm, an, cd, ct, sl, rfl, lk, hc⟩ := F.ex
  refine fn_g lk hc S ln fun A ou z H vs Q E hr hs => ?_
  obtain ⟨t, h, q⟩ := hb cd A ou z H vs Q E hr hs
  exact ⟨t, h.nox, q⟩
/-- the same for a def with defaults -/
theorem okD {CX : CXT} {P : Program} {w : World} {K : PySem.W.Frag} {mg : Str → Option Value} {base : Heap} {x qu : Str} {st : Stmt} {dvs : List V} {f : Addr} {fd : FuncData} {N ps : List Str} {k : Nat} {sp : Sp} (F : FunD K x qu (defArgs st) (defBody st) (defScope st) dvs [] f fd) (S : FnScope N ps (defScope st)) (ln : ∀ vs H Q E, sp vs H Q E → vs.length = ps.length)
    (hb : ∀ (cd : Value) (A : Around) (ou : List Env) (z : Shared) (H : Hp) (vs : List V) (Q : VK) (E : XK), RoomG k (A.deeper (envOfC qu (defScope st) z.heap.objs.size f cd)) → sp vs H Q E →
      ∃ t, PSs (cxOf CX P w K mg base N qu (defScope st) f cd A ou z H E).nox (defBody st) t ∧ t { nx := fun _ H' => Q .non H', rt := Q } (start N vs) H) : FnG P w K mg base CX (k + 1) f fd ps sp := by
  obtain ⟨oc, od, dV, kV, dc, pm, an, cd, ct, sl, rfl, lk, hc, _, _⟩ := F.ex
  refine fn_g lk hc S ln fun A ou z H vs Q E hr hs => ?_
  obtain ⟨t, h, q⟩ := hb cd A ou z H vs Q E hr hs
  exact ⟨t, h.nox, q⟩
theorem fund_mk {K : PySem.W.Frag} {x qual : Str} {st : Stmt} {dvs : List V} {f T : Addr} {oc tc : Value} {od an td : Option Addr} {osl ts : Array (Option Value)} {kV doc pm cdv ct : Value} {ti : Array Value} {tn : Nat} (l : K.lookup f = some ⟨oc, od, .func (PySem.W.fnOf x qual (defArgs st) (defBody st) (defScope st) (.ref T) kV doc pm an cdv ct), osl⟩)
    (c : PySem.W.codeIn K cdv qual = true) (k : PySem.W.keepIn K (.ref f) = true) (lt : K.lookup T = some ⟨tc, td, .seq ti tn, ts⟩) (hv : Vals dvs ti.toList) (hd : dvs ≠ []) :
    FunD K x qual (defArgs st) (defBody st) (defScope st) dvs [] f (PySem.W.fnOf x qual (defArgs st) (defBody st) (defScope st) (.ref T) kV doc pm an cdv ct) :=
  ⟨⟨oc, od, .ref T, kV, doc, pm, an, cdv, ct, osl, rfl, l, c, .inr ⟨hd, T, _, ti.toList, tn, rfl, lt, by rw [Array.toArray_toList], hv⟩, .inl rfl⟩, k⟩
theorem kb_dfl {K : PySem.W.Frag} {x qual : Str} {params : Arguments} {body : List Stmt} {scope : Scope} {dvs : List V} {f : Addr} {fd : FuncData} {ps ks : List Str} (F : FunD K x qual params body scope dvs [] f fd) (hd : dvs ≠ []) (g : {α : Type} → List α → List α → List α → List α)
    (hrel : ∀ {vs zs : List V} {us ws its : List Value}, Vals vs us → Vals zs ws → Vals dvs its → Vals (g dvs vs zs) (g its us ws))
    (h : ∀ (T : Addr) (kV doc pm : Value) (an : Option Addr) (cdv ct : Value) (us ws its : List Value), its.length = dvs.length → (g its us ws).length = ps.length →
      ∃ k, bindArgs (PySem.W.fnOf x qual params body scope (.ref T) kV doc pm an cdv ct) ⟨us, ks.zip ws⟩ = seqItems? (.ref T) >>= k ∧ k (some its.toArray) = pure (ps.zip (g its us ws))) : ∃ g', KBinds K fd ps ks g' (fun vs zs => g dvs vs zs) := by
  obtain ⟨oc, od, dV, kV, doc, pm, an, cdv, ct, osl, rfl, lk, hcd, hD, hK⟩ := F.ex
  rcases hD with ⟨e, _⟩ | ⟨_, T, o, its, m, rfl, lT, oT, rT⟩
  · exact absurd e hd
  · refine ⟨fun us ws => g its us ws, fun s us ws X hl => ?_, fun r1 r2 => hrel r1 r2 rT⟩
    obtain ⟨k, e1, e2⟩ := h T kV doc pm an cdv ct us ws its rT.length.symm hl
    refine BindsTo.of_looks fun M => ?_
    rw [e1]
    exact looks_items X lT oT (.of_pure e2)
/-! ### a def by its name -/
structure Def (P : Program) (w : World) (K : PySem.W.Frag) (mg : Str → Option Value) (base : Heap) (CX : CXT) (name : Str) (k : Nat) (ps : List Str) (sp : Sp) : Prop where
  ex : ∃ f fd, mg name = some (.ref f) ∧ FnG P w K mg base CX k f fd ps sp ∧ PySem.W.keepIn K (.ref f) = true ∧ Binds K fd ps []
section
variable {X : Cx} {CX : CXT} {k : Nat} {ps : List Str} {sp : Sp} {x : Str} {p pos : Pos} {e : Expr} {es : List Expr} {t : TA} {E : XK}
theorem pe_f (G : Def X.prog X.w X.K X.mg X.base CX x k ps sp) (hr : RoomG k X.A) (hg : Gl X x) (hx : Passes CX X E) (ha : PA X (e :: es) t) (hdb : (x == ("__debug__" : Str)) = false := by decide)
    (he : starEach (e :: es) X.env = (false, eval e X.env) :: starEach es X.env := by rfl) (hpl : (backTo pos (starEach es X.env)).any (·.1) = false := by rfl) :
    PE X (.Call (.Name x p) (e :: es) [] pos) (tCall sp [] E t) := by
  obtain ⟨f, fd, m, F, kp, b⟩ := G.ex
  refine ⟨fun pins s σ H Q I h => wpAny_Call_Name_kw (ld_glob I hg m ?_ hdb)⟩
  exact PySem.W.callWith_K (h₀ := X.base) I.ok.mod.kin kp (thn (ha.run pos pins s σ H _ I h) fun us z ⟨vs, G, J, r, q⟩ => ⟨J.kIn, run_g F hr b hx J r q⟩) he hpl
theorem pe_f0 (G : Def X.prog X.w X.K X.mg X.base CX x k ps sp) (hr : RoomG k X.A) (hg : Gl X x) (hx : Passes CX X E) (hdb : (x == ("__debug__" : Str)) = false := by decide) :
    PE X (.Call (.Name x p) [] [] pos) (tCall sp [] E tNil) := by
  obtain ⟨f, fd, m, F, kp, b⟩ := G.ex
  refine ⟨fun pins s σ H Q I h => wpAny_Call_Name_kw (ld_glob I hg m ?_ hdb)⟩
  exact PySem.W.callWith_K0 I.kIn kp (run_g (us := []) F hr b hx I .nil h)
end
/-- a def called by its arguments' names -/
structure DefK (P : Program) (w : World) (K : PySem.W.Frag) (mg : Str → Option Value) (base : Heap) (CX : CXT) (name : Str) (k : Nat) (ps ks : List Str) (gV : List V → List V → List V) (sp : Sp) : Prop where
  ex : ∃ f fd g, mg name = some (.ref f) ∧ FnG P w K mg base CX k f fd ps sp ∧ PySem.W.keepIn K (.ref f) = true ∧ KBinds K fd ps ks g gV
section
variable {X : Cx} {CX : CXT} {k : Nat} {ps ks : List Str} {gV : List V → List V → List V} {sp : Sp} {x : Str} {p pos : Pos} {e : Expr} {es : List Expr} {kws : List Keyword} {t tk : TA} {E : XK}
theorem pe_fK0 (G : DefK X.prog X.w X.K X.mg X.base CX x k ps ks gV sp) (hr : RoomG k X.A) (hg : Gl X x) (hx : Passes CX X E) (hkw : PK X kws tk)
    (hall : (backToKw pos (keywordEach kws X.env)).all (·.1.isSome) = true := by rfl) (hks : (backToKw pos (keywordEach kws X.env)).filterMap (·.1) = ks := by rfl) (hdb : (x == ("__debug__" : Str)) = false := by decide)
    (hpl : ((backTo pos (starEach [] X.env)).any (·.1) || (backToKw pos (keywordEach kws X.env)).any (·.1.isNone)) = false := by rfl) :
    PE X (.Call (.Name x p) [] kws pos) (tCallK sp gV E tNil tk) := by
  obtain ⟨f, fd, g, m, F, kp, b⟩ := G.ex
  refine ⟨fun pins s σ H Q I h => wpAny_Call_Name_kw (ld_glob I hg m (PySem.W.callWith_KW0 (h₀ := X.base) I.ok.mod.kin kp hall ?_ hpl) hdb)⟩
  refine thn (hkw.run pos pins s σ H _ I h) fun ws z ⟨zs, G, J, rz, q⟩ => ⟨J.kIn, ?_⟩
  rw [hks]
  exact run_gk F hr b hx J .nil rz q
theorem pe_fK (G : DefK X.prog X.w X.K X.mg X.base CX x k ps ks gV sp) (hr : RoomG k X.A) (hg : Gl X x) (hx : Passes CX X E) (ha : PA X (e :: es) t) (hkw : PK X kws tk)
    (hall : (backToKw pos (keywordEach kws X.env)).all (·.1.isSome) = true := by rfl) (hks : (backToKw pos (keywordEach kws X.env)).filterMap (·.1) = ks := by rfl) (hdb : (x == ("__debug__" : Str)) = false := by decide)
    (he : starEach (e :: es) X.env = (false, eval e X.env) :: starEach es X.env := by rfl)
    (hpl : ((backTo pos (starEach (e :: es) X.env)).any (·.1) || (backToKw pos (keywordEach kws X.env)).any (·.1.isNone)) = false := by rfl) :
    PE X (.Call (.Name x p) (e :: es) kws pos) (tCallK sp gV E t tk) := by
  obtain ⟨f, fd, g, m, F, kp, b⟩ := G.ex
  refine ⟨fun pins s σ H Q I h => wpAny_Call_Name_kw (ld_glob I hg m ?_ hdb)⟩
  refine PySem.W.callWith_KW (h₀ := X.base) I.ok.mod.kin kp hall (thn (ha.run pos pins s σ H _ I h) fun us z ⟨vs, G, J, r, q⟩ => ?_) hpl he
  refine thn (hkw.run pos pins z σ G _ J q) fun ws z2 ⟨zs, G2, J2, rz, q2⟩ => ⟨J2.kIn, ?_⟩
  rw [hks]
  exact run_gk F hr b hx J2 r rz q2
end
theorem FnG.no {P : Program} {w : World} {K : PySem.W.Frag} {mg : Str → Option Value} {base : Heap} {CX : CXT} {k : Nat} {f : Addr} {fd : FuncData} {ps : List Str} {sp : Sp} (h : ∀ vs H Q E, sp vs H Q E → False) : FnG P w K mg base CX k f fd ps sp :=
  ⟨fun vs H Q E y => (h vs H Q E y).elim, fun _ _ _ H _ _ vs Q E _ _ _ _ y => (h vs H Q E y).elim⟩
theorem FnG.mono {P : Program} {w : World} {K : PySem.W.Frag} {mg : Str → Option Value} {base : Heap} {CX : CXT} {j k : Nat} {f : Addr} {fd : FuncData} {ps : List Str} {sp : Sp} (F : FnG P w K mg base CX j f fd ps sp) (h : j ≤ k) : FnG P w K mg base CX k f fd ps sp :=
  ⟨F.ln, fun A ou z H ar us vs Q E hr => F.go A ou z H ar us vs Q E (hr.mono h)⟩
/-- what stands in a class of the text -/
def clsB : Stmt → List Stmt := fun
  | .ClassDef (body := bd) .. => bd
  | _ => []
/-! ### an own class: made by its name, fields read -/
structure ClsF (K : PySem.W.Frag) (C : Addr) (fs : List Str) : Prop where
  cl : Cls K C
  na : ∀ f ∈ fs, NoAttr K C f
/-- the class by its name -/
structure ClsN (K : PySem.W.Frag) (x : Str) (C : Addr) (fs : List Str) : Prop extends ClsF K C fs where
  nm : PySem.W.nsIn K mainGlobals x = some (some (.ref C))
theorem ClsN.uniq {K : PySem.W.Frag} {x : Str} {C D : Addr} {fs gs : List Str} (a : ClsN K x C fs) (b : ClsN K x D gs) : C = D := by
  have e := a.nm.symm.trans b.nm
  cases e
  rfl
theorem mk_guards {A : Around} {C : Addr} {us : List Value} {kw : List (Str × Value)} (g : A.guards = some []) : (A.under (.builtin "type.__call__" ⟨.ref C :: us, kw⟩)).guards = some [] := by
  first | exact g | (simp [Around.under, Code.guards, Code.isGuard, guardIds, pushGuards, g])
theorem RoomG.mk2 {k : Nat} {A : Around} (r : RoomG (k + 1) A) (C : Addr) (us : List Value) : RoomG k (A.under (.builtin "type.__call__" ⟨.ref C :: us, []⟩)) := ⟨r.rm.make C us [], mk_guards r.gd, by have := r.un; rw [make_units]; omega⟩
structure DefM (P : Program) (w : World) (K : PySem.W.Frag) (mg : Str → Option Value) (base : Heap) (CX : CXT) (name : Str) (k : Nat) (ps : List Str) (sp : Sp) (C : Addr) : Prop where
  ex : ∃ f fd, mg name = some (.ref C) ∧ Mk K C f ∧ FnG P w K mg base CX k f fd ps sp ∧ Binds K fd ps []
theorem run_mkG {X : Cx} {CX : CXT} {k : Nat} {f C : Addr} {fd : FuncData} {ps : List Str} {sp : Sp} {E : XK} {pins : List (Addr × Obj)} {σ : L2.St} {H : Hp} {s : Shared} {Q : VK} {us : List Value} {vs : List V} (M : Mk X.K C f)
    (F : FnG X.prog X.w X.K X.mg X.base CX k f fd ps sp) (hr : RoomG (k + 1) X.A) (hb : Binds X.K fd ps []) (hx : Passes CX X E) (I : Inv X pins σ H s) (r : Vals vs us)
    (h : ∀ x dx, H x = none → H dx = none → dx ≠ x → sp (.ref x :: (vs ++ [])) (upd (upd H dx (.own x)) x (.ins C dx [])) (fun v H2 => v = .non ∧ Q (.ref x) H2) E) : wpAny (model X.prog X.w) X.A (call (.ref C) us) (EP X pins σ Q) X.xe s := by
  have hq := h (s.heap.objs.size + 1) s.heap.objs.size (I.hok.fresh (Nat.le_succ _)) (I.hok.fresh (Nat.le_refl _)) (Nat.ne_of_lt (Nat.lt_succ_self _))
  have J := Inv.made (C := C) I
  have q : Vals (V.ref (s.heap.objs.size + 1) :: (vs ++ [])) (Value.ref (s.heap.objs.size + 1) :: (us ++ [])) := .cons rfl (r.append .nil)
  have hl : (Value.ref (s.heap.objs.size + 1) :: us ++ []).length = ps.length := q.length.symm.trans (F.ln _ _ _ _ hq)
  have run := F.go _ X.stack _ _ ⟨Value.ref (s.heap.objs.size + 1) :: us, []⟩ (Value.ref (s.heap.objs.size + 1) :: (us ++ [])) _ _ E (hr.mk2 C us) (J.env0.make C us []) (by rw [← List.cons_append]; exact hb _ (Value.ref (s.heap.objs.size + 1) :: us) J.kIn hl) q hq
  refine wpAny_call (make_map (f := f) I.kIn M.makes M.init (beq_iff_eq.mp M.fn) (codeAny_mono run fun r z y => ?_))
  match r, y with
  | .error e, y => exact hx pins σ _ _ e z J y
  | .ok .next, y => exact y.elim
  | .ok .brk, y => exact y.elim
  | .ok .cont, y => exact y.elim
  | .ok (.ret u), y =>
    obtain ⟨v, G, J2, rv, ev, q3⟩ := J.after y
    subst ev
    exact ⟨rv, ⟨V.ref (s.heap.objs.size + 1), G, J2, rfl, q3⟩⟩
theorem pe_mk {X : Cx} {CX : CXT} {k : Nat} {ps : List Str} {sp : Sp} {x : Str} {C : Addr} {p pos : Pos} {e : Expr} {es : List Expr} {t : TA} {E : XK} (G : DefM X.prog X.w X.K X.mg X.base CX x k ps sp C) (hr : RoomG (k + 1) X.A) (hg : Gl X x) (hx : Passes CX X E) (ha : PA X (e :: es) t)
    (hdb : (x == ("__debug__" : Str)) = false := by decide) (he : starEach (e :: es) X.env = (false, eval e X.env) :: starEach es X.env := by rfl) (hpl : (backTo pos (starEach es X.env)).any (·.1) = false := by rfl) :
    PE X (.Call (.Name x p) (e :: es) [] pos) (tMake C sp [] E t) := by
  obtain ⟨f, fd, m, M, F, b⟩ := G.ex
  refine ⟨fun pins s σ H Q I h => wpAny_Call_Name_kw (ld_glob I hg m ?_ hdb)⟩
  exact PySem.W.callWith_K (h₀ := X.base) I.ok.mod.kin M.kp (thn (ha.run pos pins s σ H _ I h) fun us z ⟨vs, G, J, r, q⟩ => ⟨J.kIn, run_mkG M F hr b hx J r q⟩) he hpl
/-! ### own methods -/
structure DefO (P : Program) (w : World) (K : PySem.W.Frag) (mg : Str → Option Value) (base : Heap) (CX : CXT) (C : Addr) (nm : Str) (k : Nat) (ps : List Str) (sp : Sp) : Prop where
  ex : ∃ f fd, PySem.W.findIn K (.ref C) nm = some (some (.ref f)) ∧ PySem.W.isFn K (.ref f) = true ∧ FnG P w K mg base CX k f fd ps sp ∧ Binds K fd ps []
theorem run_gA {X : Cx} {CX : CXT} {k : Nat} {f : Addr} {fd : FuncData} {ps : List Str} {sp : Sp} {E : XK} {pins : List (Addr × Obj)} {σ : L2.St} {H : Hp} {s : Shared} {Q : VK} {us : List Value} {vs : List V} {A : Around}
    (F : FnG X.prog X.w X.K X.mg X.base CX k f fd ps sp) (hr : RoomG k A) (fr : A.frames = X.A.frames) (hb : Binds X.K fd ps []) (hx : Passes CX X E) (I : Inv X pins σ H s) (r : Vals vs us) (h : sp vs H Q E) : wpAny (model X.prog X.w) A (call (.ref f) us) (EP X pins σ Q) X.xe s := by
  have e0 : Env0 X.prog X.w X.K X.mg X.base A X.stack s H := by
    have e := I.env0
    exact ⟨by rw [fr]; exact e.frames, e.mod, e.bs, e.bsz, e.funs, e.frf, e.hok, e.bare⟩
  have q := r.append (show Vals [] [] from .nil)
  have h : sp (vs ++ []) H Q E := by rw [List.append_nil]; exact h
  exact wpAny_call (codeAny_mono (F.go A X.stack s H ⟨us, []⟩ (us ++ []) (vs ++ []) Q E hr e0 (hb s us I.kIn (q.length.symm.trans (F.ln _ _ _ _ h))) q h) fun _ _ y => aft hx I y)
theorem cmpBack {X : Cx} {pins : List (Addr × Obj)} {σ : L2.St} {Q : VK} {u : Value} {s : Shared} (h : EP X pins σ Q u s) : PySem.W.CmpBack (EP X pins σ Q) u s := by
  obtain ⟨v, H', I, r, q⟩ := id h
  cases u <;> first | exact h | (exfalso; cases v <;> first | (cases r; done) | (obtain ⟨_, e⟩ := r; cases e))
/-- x == y of one class with an == of its own -/
def rEqO (C : Addr) (sp : Sp) (E : XK) : R2 := fun x y H Q => ∃ a b dx dy fs gs, x = .ref a ∧ y = .ref b ∧ H a = some (.ins C dx fs) ∧ H b = some (.ins C dy gs) ∧ sp [.ref a, .ref b] H Q E
theorem op_eqO {X : Cx} {CX : CXT} {C : Addr} {n : Nat} {ps : List Str} {sp : Sp} {E : XK} (G : DefO X.prog X.w X.K X.mg X.base CX C "__eq__" n ps sp) (hr : RoomG n X.A) (hx : Passes CX X E) : OpR X (compareOp .Eq) (rEqO C sp E) := by
  obtain ⟨f, fd, hs, hf, F, hb⟩ := G.ex
  intro pins s σ H x y v u Q I rx ry h
  obtain ⟨a, b, dx, dy, fs, gs, rfl, rfl, ha, hb', h⟩ := h
  cases rx
  cases ry
  obtain ⟨mA, J, _⟩ := ins_get I.hok ha
  obtain ⟨mB, J', _⟩ := ins_get I.hok hb'
  obtain ⟨od, J, _⟩ := J.look
  obtain ⟨od', J', _⟩ := J'.look
  obtain ⟨m, hF⟩ := I.fr
  show wpAny (model X.prog X.w) X.A (richCompare .Eq (.ref a) (.ref b)) (EP X pins σ Q) X.xe s
  refine PySem.W.cmp_K (op := .Eq) (tb := .ref C) (by have := hr.units; omega) hF I.ok.mod.kin J J'.type (by simp [PySem.W.notFirst]) hs hf ?_
  exact wpAny_mono (run_gA F hr rfl hb hx I (show Vals [V.ref a, V.ref b] [Value.ref a, Value.ref b] from .cons rfl (.cons rfl .nil)) h) (fun r z q => cmpBack q) fun _ _ e => e
theorem w_eqO {C a b dx dy : Addr} {fs gs : List (Str × V)} {sp : Sp} {E : XK} {H : Hp} {Q : VK} (ha : H a = some (.ins C dx fs)) (hb : H b = some (.ins C dy gs)) (k : sp [.ref a, .ref b] H Q E) : rEqO C sp E (.ref a) (.ref b) H Q := ⟨a, b, dx, dy, fs, gs, rfl, rfl, ha, hb, k⟩
/-! x != y: the contrary of the own == -/
section
variable {prog : Program} {w : World} {A : Around} {E : Value → Shared → Prop} {s : Shared} {K : PySem.W.Frag} {x C L f : Addr} {h₀ : Heap} {m : Str → Option Value} {ox : Obj} {od : Option Obj} {b tb : Value}
theorem ifBound_ne {M : Model} {args : List Value} {Q : Option Value → Shared → Prop} (X : K.In s.heap) (I : PySem.W.InstAt s.heap x ox C od) (hs : PySem.W.findIn K (.ref C) "__ne__" = some (some (.builtin "object.__ne__")))
    (h : wpAny M A (call (.builtin "object.__ne__") (.ref x :: args)) (fun v => Q (some v)) E s) : wpAny M A (callSpecialIfBound? (.ref x) "__ne__" args) Q E s := by
  simp only [callSpecialIfBound?, bindSpecialIfBound?]
  refine PySem.wpAny_holding (PySem.wpAny_bind (PySem.wpAny_bind (PySem.wpAny_bind (I.type.here ((PySem.W.looks_findIn X hs).here ?_)))))
  refine PySem.wpAny_bind (PySem.wpAny_askSetting (PySem.wpAny_ite ?_))
  have fin : wpAny M A (call (.builtin "object.__ne__") ([.ref x] ++ args) >>= fun v => pure (some v)) Q E s := PySem.wpAny_bind (wpAny_mono h (fun v s' h' => PySem.wpAny_pure h') fun _ _ h' => h')
  split
  · exact PySem.wpAny_bind (wpAny_of_eq (PySem.F.cmp_object.ne.bind _) (PySem.wpAny_pure (by exact fin)))
  · exact PySem.wpAny_tryCatch (PySem.wpAny_bind (wpAny_of_eq (PySem.F.cmp_object.ne.bind _) (PySem.wpAny_pure (by exact fin))))
def NeBack (Q : Value → Shared → Prop) (v : Value) (s' : Shared) : Prop := match v with
  | .bool k => Q (.bool (!k)) s'
  | _ => False
theorem ne_K {Q : Value → Shared → Prop} (hu : A.units + 2 < cLine) (F : Fr h₀ L s.heap m) (X₀ : K.In h₀) (I : PySem.W.InstAt s.heap x ox C od) (hb : PySem.W.Looks (model prog w) s.heap (typeOf b) tb) (hn : PySem.W.notFirst K C tb = true) (hm : PySem.W.mroIn K C (.type "object") = some true)
    (hne : PySem.W.findIn K (.ref C) "__ne__" = some (some (.builtin "object.__ne__"))) (hs : PySem.W.findIn K (.ref C) "__eq__" = some (some (.ref f))) (hf : PySem.W.isFn K (.ref f) = true)
    (h : wpAny (model prog w) A.in1 (call (.ref f) [.ref x, b]) (NeBack Q) E s) : wpAny (model prog w) A (richCompare .NotEq (.ref x) b) Q E s := by
  have X := X₀.keeps F.keep
  have one : wpAny (model prog w) A (tryCompare (.ref x) (cmpInfo .NotEq).2.1 b) (fun r s' => ∃ v, r = some v ∧ Q v s') E s := by
    unfold tryCompare
    refine PySem.wpAny_bind (ifBound_ne X I hne ?_)
    refine wpAny_call (codeAny_call_builtin PySem.F.cmp_object.ne.plain PySem.F.cmpEntry_ne (PySem.W.check_slot PySem.F.cmpKind_ne PySem.F.cmpSplit_ne (I.type.andThen (PySem.W.looks_mroIn X hm)) (PySem.F.cmpArgs_ne _ _) ?_))
    unfold Builtin.«object.__ne__»
    refine PySem.wpAny_bind (m := slotArgs "__ne__" 1 _) (PySem.wpAny_pure ?_)
    refine PySem.wpAny_bind (m := cRoomFor _ _) (wpAny_cRoomFor (by show A.units + 1 < cLine; omega) ?_)
    refine PySem.wpAny_bind (m := callSpecialIfBound? (.ref x) (Str.ofString "__eq__") _) (PySem.W.ifBound_K X I hs hf (wpAny_mono h (fun r s' hq => ?_) fun _ _ e => e))
    cases r <;> first | exact hq.elim | skip
    rename_i k
    refine PySem.wpAny_bind (wpAny_truthy_bool ?_)
    exact PySem.wpAny_pure (PySem.wpAny_pure ⟨_, rfl, hq⟩)
  unfold richCompare
  simp only [oneThing_ref]
  refine PySem.wpAny_holding (PySem.wpAny_bind (wpAny_cRoomFor (by omega) ?_))
  refine PySem.wpAny_bind (I.type.here (PySem.wpAny_bind (hb.here ?_)))
  split
  · rename_i q
    have e : PySem.W.subIn K tb (.ref C) = some false := by
      rcases Bool.or_eq_true_iff.mp hn with e | e
      · rw [beq_iff_eq.mp e] at q; simp at q
      · exact beq_iff_eq.mp e
    refine PySem.wpAny_bind ((PySem.W.looks_subIn X e).here ?_)
    simp only [Bool.false_eq_true, if_false]
    refine PySem.wpAny_bind (wpAny_mono one (fun r s' z => ?_) fun _ _ e => e)
    obtain ⟨v, rfl, hq⟩ := z
    exact PySem.wpAny_pure hq
  · refine PySem.wpAny_bind (PySem.wpAny_pure ?_)
    simp only [Bool.false_eq_true, if_false]
    refine PySem.wpAny_bind (wpAny_mono one (fun r s' z => ?_) fun _ _ e => e)
    obtain ⟨v, rfl, hq⟩ := z
    exact PySem.wpAny_pure hq
end
def rNeO (C : Addr) (sp : Sp) (E : XK) : R2 := fun x y H Q => ∃ a b dx dy fs gs, x = .ref a ∧ y = .ref b ∧ H a = some (.ins C dx fs) ∧ H b = some (.ins C dy gs) ∧ sp [.ref a, .ref b] H (fun v H' => ∃ k, v = .bl k ∧ Q (.bl (!k)) H') E
theorem op_neO {X : Cx} {CX : CXT} {C : Addr} {n : Nat} {ps : List Str} {sp : Sp} {E : XK} (G : DefO X.prog X.w X.K X.mg X.base CX C "__eq__" n ps sp) (hne : PySem.W.findIn X.K (.ref C) "__ne__" = some (some (.builtin "object.__ne__"))) (hm : PySem.W.mroIn X.K C (.type "object") = some true) (hr : RoomG (n + 1) X.A) (hx : Passes CX X E) : OpR X (compareOp .NotEq) (rNeO C sp E) := by
  obtain ⟨f, fd, hs, hf, F, hb⟩ := G.ex
  intro pins s σ H x y v u Q I rx ry h
  obtain ⟨a, b, dx, dy, fs, gs, rfl, rfl, ha, hb', h⟩ := h
  cases rx
  cases ry
  obtain ⟨mA, J, _⟩ := ins_get I.hok ha
  obtain ⟨mB, J', _⟩ := ins_get I.hok hb'
  obtain ⟨od, J, _⟩ := J.look
  obtain ⟨od', J', _⟩ := J'.look
  obtain ⟨m, hF⟩ := I.fr
  show wpAny (model X.prog X.w) X.A (richCompare .NotEq (.ref a) (.ref b)) (EP X pins σ Q) X.xe s
  refine ne_K (tb := .ref C) (by have := hr.units; omega) hF I.ok.mod.kin J J'.type (by simp [PySem.W.notFirst]) hm hne hs hf ?_
  refine wpAny_mono (run_gA F hr.in1 rfl hb hx I (show Vals [V.ref a, V.ref b] [Value.ref a, Value.ref b] from .cons rfl (.cons rfl .nil)) h) (fun r z q => ?_) fun _ _ e => e
  obtain ⟨v, H', I', rv, k, rfl, q⟩ := q
  obtain rfl : r = Value.bool k := rv
  exact ⟨.bl (!k), H', I', rfl, q⟩
theorem w_neO {C a b dx dy : Addr} {fs gs : List (Str × V)} {sp : Sp} {E : XK} {H : Hp} {Q : VK} (ha : H a = some (.ins C dx fs)) (hb : H b = some (.ins C dy gs)) (k : sp [.ref a, .ref b] H (fun v H' => ∃ k, v = .bl k ∧ Q (.bl (!k)) H') E) : rNeO C sp E (.ref a) (.ref b) H Q := ⟨a, b, dx, dy, fs, gs, rfl, rfl, ha, hb, k⟩
/-- data of any depth -/
def rEqDD (K : PySem.W.Frag) : R2 := fun x y H Q => ∃ d e, Dp K H x d ∧ Dp K H y e ∧ d.canLay0 = true ∧ e.canLay0 = true ∧ d.depth ≤ 3000 ∧ Q (.bl (PyData.eqv d e)) H
def rNeDD (K : PySem.W.Frag) : R2 := fun x y H Q => ∃ d e, Dp K H x d ∧ Dp K H y e ∧ d.canLay0 = true ∧ e.canLay0 = true ∧ d.depth ≤ 3000 ∧ Q (.bl (!PyData.eqv d e)) H
theorem op_eqDD {X : Cx} {K : PySem.W.Frag} (hK : X.K = K) (hu : X.A.units + 5000 < cLine) : OpR X (compareOp .Eq) (rEqDD K) := by
  subst hK
  intro pins s σ H x y v u Q I rx ry h
  obtain ⟨d, e, hd, he, sd, se, dp, q⟩ := h
  obtain ⟨as, r1⟩ := Dp.reads I d x v hd rx
  obtain ⟨bs, r2⟩ := Dp.reads I e y u he ry
  exact SeqAt.compareEq_reads r1 r2 sd se (by omega) ⟨.bl _, H, I, rfl, q⟩
theorem op_neDD {X : Cx} {K : PySem.W.Frag} (hK : X.K = K) (hu : X.A.units + 5000 < cLine) : OpR X (compareOp .NotEq) (rNeDD K) := by
  subst hK
  intro pins s σ H x y v u Q I rx ry h
  obtain ⟨d, e, hd, he, sd, se, dp, q⟩ := h
  obtain ⟨as, r1⟩ := Dp.reads I d x v hd rx
  obtain ⟨bs, r2⟩ := Dp.reads I e y u he ry
  exact SeqAt.compareNe_reads r1 r2 sd se (by omega) ⟨.bl _, H, I, rfl, q⟩
/-! isinstance of a class of one's own -/
structure ClsO (K : PySem.W.Frag) (C : Addr) : Prop where
  ne : PySem.W.findIn K (.ref C) "__ne__" = some (some (.builtin "object.__ne__"))
  mo : PySem.W.mroIn K C (.type "object") = some true
  kc : PySem.W.findIn K (.ref C) "__class__" = some (some (.builtin "object.__class__"))
  kg : PySem.W.specialIn K (.builtin "object.__class__") "__get__" = some (some (.builtin "getset_descriptor.__get__"))
  kt : PySem.W.takesIn K (.builtin "object.__class__") = some true
  ki : PySem.W.kitOne K (.ref C) (.ref C) = some true
theorem w_isiOwn {K : PySem.W.Frag} {H : Hp} {Q : VK} {a C dx : Addr} {fs : List (Str × V)} (h : H a = some (.ins C dx fs)) (cl : Cls K C) (o : ClsO K C) (k : Q (.bl true) H) : rIsi K [.ref a, .ref C] H Q := ⟨_, _, _, _, _, rfl, .own C, .base (.ins h cl o.kc o.kg o.kt o.mo), o.ki, k⟩
/-- a dict of the module has these texts as keys -/
def KDs (K : PySem.W.Frag) (w : World) (a : Addr) (ks : List Str) : Prop := (a == sysModules) = false ∧ ∀ z ∈ ks, ∃ v, KDct K w a z v
/-- a dict of the module: texts, each with a tuple of texts -/
def KDt (K : PySem.W.Frag) (w : World) (a : Addr) (l : List (Str × List Str)) : Prop := (a == sysModules) = false ∧ ∀ z ∈ l, ∃ t, KDct K w a z.1 (.ref t) ∧ ∀ H, SqT K H t (z.2.map V.str)
def tKGet (K : PySem.W.Frag) (w : World) (td ty : TE) : TE := fun σ H Q => td σ H fun x H1 => ty σ H1 fun y H2 => ∃ a z v, x = .ref a ∧ y = .str z ∧ (a == sysModules) = false ∧ KDct K w a z v ∧ Q v H2
theorem pe_kget {X : Cx} {o i : Expr} {pos : Pos} {td ty : TE} (ho : PE X o td) (hi : PE X i ty) (hs : NoSl i) : PE X (.Subscript o i pos) (tKGet X.K X.w td ty) := by
  refine ⟨fun pins s σ H Q I h => ?_⟩
  refine subD_of PySem.F.slot_dict_getitem.lookup hs (thn (ho.run pins s σ H _ I h) fun u s1 ⟨x, H1, I1, rx, q1⟩ => thn (hi.run pins s1 σ H1 _ I1 q1) fun iv s2 ⟨y, H2, I2, ry, a, z, v, ex, ey, low, ⟨es, n, u0, hl, hk, e, ru⟩, q2⟩ => ?_)
  subst ex
  subst ey
  obtain rfl : u = Value.ref a := rx
  obtain ⟨t, rfl⟩ := (show ∃ t, iv = Value.str z t from ry)
  refine ⟨⟨_, I2.kIn _ _ hl, rfl⟩, wpAny_getItem_of (strKind_is X.prog X.w z t) (PySem.W.mapOf_K (prog := X.prog) (w := X.w) I2.kIn hl hk) ((PySem.W.find_K hl e)) ⟨v, H2, I2.tok _, ru, q2⟩⟩
def tNiK (K : PySem.W.Frag) (w : World) (ty td : TE) : TE := fun σ H Q => ty σ H fun y H1 => td σ H1 fun x H2 => ∃ a z v, x = .ref a ∧ y = .str z ∧ (a == sysModules) = false ∧ KDct K w a z v ∧ Q (.bl false) H2
theorem pc_niK {X : Cx} {i o : Expr} {ty td : TE} (hi : PE X i ty) (ho : PE X o td) : PC X .NotIn i o (tNiK X.K X.w ty td) := by
  refine ⟨fun pins s σ H Q I h => ?_⟩
  refine thn (hi.run pins s σ H _ I h) fun iv s1 ⟨y, H1, I1, ry, q1⟩ => thn (ho.run pins s1 σ H1 _ I1 q1) fun u s2 ⟨x, H2, I2, rx, a, z, v, ex, ey, low, ⟨es, n, u0, hl, hk, e, ru⟩, q2⟩ => ?_
  subst ex
  subst ey
  obtain rfl : u = Value.ref a := rx
  obtain ⟨t, rfl⟩ := (show ∃ t, iv = Value.str z t from ry)
  have hm := PySem.W.mapOf_K (prog := X.prog) (w := X.w) I2.kIn hl hk
  refine wpAny_notIn_of (strKind_is X.prog X.w z t) low hm ?_
  rw [PySem.W.find_K hl e]
  exact ⟨.bl false, H2, I2.tok _, rfl, q2⟩
/-! ### the top: the law is called where nothing is being shown -/
theorem top_core {P : Program} {w : World} {K : PySem.W.Frag} {mg mb : Str → Option Value} {CX : CXT} {k : Nat} {fa a : Addr} {fd : FuncData} {x : Str} {sp : Sp} {z : Shared} {vs : List Value} {ns : List Int} (kz : K.In z.heap) (g1 : z.heap.Ns mainGlobals mg) (g2 : z.heap.Ns builtinsNs mb)
    (g3 : ∀ y : Str, y ≠ "__name__" → mb y = bootBuiltins y) (lim : z.heap.NoLimit) (gn : z.gens = #[]) (ha : z.heap.get? a = some { cls := .type "list", data := .seq vs.toArray }) (hr : RoomG k callerA)
    (F : ∀ base : Heap, K.In base → base.Ns mainGlobals mg → FnG P w K mg base CX k fa fd [x] sp) (hb : ∀ (s : Shared) (u : Value), BindsTo s fd ⟨[u], []⟩ [(x, u)]) (hCX : ∀ H e s', CX [] H z (fun _ _ _ => False) e s' → False)
    (H : Hp) (hO : Only H) (hsp : sp [.ref a] H (fun v _ => v = .bl true) fun _ _ _ => False) (ok : HOk P w H z.heap) (hA : ∀ b, H b ≠ none → b = a) (hK : H a ≠ none → K.lookup a = none) :
    codeAny (model P w) callerA (.call (.ref fa) ⟨[.ref a], []⟩) (fun r s' => r = .ok (.ret (.bool true)) ∧ OldK z.heap s'.heap ∧ s'.os = z.os ∧ AllBare s'.gens) z := by
  have non : ∀ {b : Addr} {o : Obj} {es : Array DictEntry} {ep : Nat}, z.heap.get? b = some o → o.data = .dict es ep → H b = none := by
    intro b o es ep e d
    refine Classical.byContradiction fun q => ?_
    have eb := hA b q
    subst eb
    rw [ha] at e
    cases e
    cases (show Data.seq vs.toArray _ = Data.dict es ep from d)
  have nk : ∀ {b : Addr} {m : Str → Option Value}, z.heap.Ns b m → (hidT z.heap H).Ns b m := by
    rintro b m ⟨o, es, ep, e, d, r⟩
    exact ⟨o, es, ep, hidT_get e (non e d), d, r⟩
  have kb : K.In (hidT z.heap H) := by
    intro b o e
    refine hidT_get (kz b o e) (Classical.byContradiction fun q => ?_)
    have eb := hA b q
    subst eb
    rw [hK q] at e
    cases e
  have hM : Mod K mg (hidT z.heap H) := ⟨kb, nk g1, ⟨mb, nk g2, g3⟩, lim.elim fun mc h => ⟨mc, nk h.1, h.2⟩⟩
  have e0 : Env0 P w K mg (hidT z.heap H) callerA [] z H := ⟨rfl, hM, fun b o e => of_hidT e, Nat.le_of_eq (hidT_size _ _), trivial, (by intro b hb; cases (show b ∈ ([] : List Addr) from hb)), ok, .of_eq gn⟩
  refine codeAny_mono ((F _ kb (nk g1)).go callerA [] z H ⟨[.ref a], []⟩ [.ref a] [.ref a] _ _ hr e0 (hb z (.ref a)) (.cons rfl .nil) hsp) fun r s' h => ?_
  match r, h with
  | .error e, h => exact (hCX H e s' h).elim
  | .ok .next, h => exact h.elim
  | .ok .brk, h => exact h.elim
  | .ok .cont, h => exact h.elim
  | .ok (.ret u), h =>
    obtain ⟨v, G, os, bare, un, ok', rv, q⟩ := h
    have q : v = .bl true := q
    subst q
    obtain rfl : u = Value.bool true := rv
    refine ⟨rfl, OldK.of_keep fun b o e => ?_, os, bare⟩
    rcases hO b with y | ⟨ob, xs, y⟩
    · exact un.keep b o e y (by intro n; cases (show b ∈ ([] : List Addr) from n)) (by simp)
    · obtain ⟨e1, _⟩ := ok b _ y
      obtain ⟨e2, _⟩ := ok' b _ (un.frzs b ob _ y)
      rw [e] at e1
      cases e1
      exact e2
theorem top_run {P : Program} {w : World} {K : PySem.W.Frag} {mg mb : Str → Option Value} {CX : CXT} {k : Nat} {fa a : Addr} {fd : FuncData} {x : Str} {sp : Sp} {z : Shared} {vs : List Value} {ns : List Int} (kz : K.In z.heap) (g1 : z.heap.Ns mainGlobals mg) (g2 : z.heap.Ns builtinsNs mb)
    (g3 : ∀ y : Str, y ≠ "__name__" → mb y = bootBuiltins y) (lim : z.heap.NoLimit) (gn : z.gens = #[]) (ha : z.heap.get? a = some { cls := .type "list", data := .seq vs.toArray }) (hi : IntsAre vs ns) (hl : ns.length ≤ sizeLine) (hr : RoomG k callerA)
    (F : ∀ base : Heap, K.In base → base.Ns mainGlobals mg → FnG P w K mg base CX k fa fd [x] sp) (hb : ∀ (s : Shared) (u : Value), BindsTo s fd ⟨[u], []⟩ [(x, u)]) (hCX : ∀ H e s', CX [] H z (fun _ _ _ => False) e s' → False)
    (hsp : ∀ H : Hp, Only H → SqL K H a (ns.map V.int) → sp [.ref a] H (fun v _ => v = .bl true) fun _ _ _ => False) :
    codeAny (model P w) callerA (.call (.ref fa) ⟨[.ref a], []⟩) (fun r s' => r = .ok (.ret (.bool true)) ∧ OldK z.heap s'.heap ∧ s'.os = z.os ∧ AllBare s'.gens) z := by
  have rv := vals_ints hi
  have le := hi.length
  cases hk : K.lookup a with
  | some o =>
    have e := kz a o hk
    rw [ha] at e
    cases e
    have hO : Only (fun _ => none) := fun _ => .inl rfl
    exact top_core (ns := ns) kz g1 g2 g3 lim gn ha hr F hb hCX _ hO (hsp _ hO (.inr ⟨_, vs.toArray, _, hk, rfl, rfl, rfl, (by rw [List.size_toArray, le]; exact hl), (by simpa using rv)⟩)) (by intro b u y; cases (show (none : Option HO) = some u from y)) (by intro b y; exact absurd rfl y) (by intro y; exact absurd rfl y)
  | none =>
    have h1 : ∀ b u, (if b = a then some (HO.frz { cls := .type "list", data := .seq vs.toArray } (.lst (ns.map V.int))) else none) = some u → b = a ∧ u = HO.frz { cls := .type "list", data := .seq vs.toArray } (.lst (ns.map V.int)) := by
      intro b u y
      by_cases n : b = a
      · rw [if_pos n] at y
        cases y
        exact ⟨n, rfl⟩
      · rw [if_neg n] at y
        cases y
    have hO : Only (fun b => if b = a then some (HO.frz { cls := .type "list", data := .seq vs.toArray } (.lst (ns.map V.int))) else none) := fun b => by
      by_cases n : b = a
      · exact .inr ⟨_, _, if_pos n⟩
      · exact .inl (if_neg n)
    refine top_core (ns := ns) kz g1 g2 g3 lim gn ha hr F hb hCX _ hO (hsp _ hO (.inl (.inr ⟨{ cls := .type "list", data := .seq vs.toArray }, if_pos rfl⟩))) (fun b u y => ?_) (fun b y => ?_) (fun _ => hk)
    · obtain ⟨rfl, rfl⟩ := h1 b u y
      exact ⟨ha, by rw [List.length_map]; exact hl, vs, _, rv, ha⟩
    · by_cases n : b = a
      · exact n
      · exact absurd (if_neg n) y
theorem walk_g {l : PySem.W.OpenLaw} {n k : Nat} {q : Program} {loose : List Str} {XP : (Str → Option Value) → Heap → Prop} {YP : World → Heap → Prop} {d : DefRec} {K : Params → PySem.W.Frag} {CX : World → CXT} {sp : World → Sp} {x : Str}
    (hn : l.most = some n) (hn2 : n ≤ sizeLine) (hdf : d.params.defaults = []) (hr : RoomG k callerA) (hY : ∀ (w : World) (h : Heap), YP w h → (K w.params).In h)
    (F : ∀ (w : World) (mg : Str → Option Value) (fa : Addr) (h : Heap), (K w.params).In h → h.Ns mainGlobals mg → mg d.name = some (.ref fa) → ∃ fd : FuncData, (∀ (s : Shared) (u : Value), BindsTo s fd ⟨[u], []⟩ [(x, u)]) ∧
        ∀ base : Heap, (K w.params).In base → base.Ns mainGlobals mg → FnG l.prog w (K w.params) mg base (CX w) k fa fd [x] (sp w))
    (hsp : ∀ (w : World) (H : Hp) (a : Addr) (ns : List Int), ns.length ≤ n → Only H → SqL (K w.params) H a (ns.map V.int) → sp w [.ref a] H (fun v _ => v = .bl true) fun _ _ _ => False)
    (hCX : ∀ (w : World) (H : Hp) (s : Shared) (e : Value) (s' : Shared), CX w [] H s (fun _ _ _ => False) e s' → False) :
    PySem.W.WalkO q loose XP YP l.row.toRowW d [] (fun f vs => PySem.call f vs) := by
  refine Att.attach_call hn hdf fun w s0 z mg mb fa o pm cd dc a vs ns G Y ho hd hcd hmg hobj hi hl hg => ?_
  have kz := hY w _ Y
  obtain ⟨fd, hb, hF⟩ := F w mg fa _ kz G.T.g hmg
  exact top_run kz G.T.g G.T.b G.T.builtins G.T.nolimit hg hobj hi (Nat.le_trans hl hn2) hr hF hb (fun H e s' => hCX w H z e s') fun H hO hS => hsp w H a ns hl hO hS
/-! ### heaps -/
theorem sm_new {H : Hp} {p : Addr} {o : HO} (h : H p = none) : Sm H (upd H p o) := fun b x e => by
  rw [upd_ne (ne_of_none e h)]
  exact e
/-- all but b as it was -/
def Kp (b : Addr) (H H' : Hp) : Prop := ∀ a o, a ≠ b → H a = some o → H' a = some o
theorem Kp.refl {b : Addr} (H : Hp) : Kp b H H := fun _ _ _ h => h
theorem Kp.trans {b : Addr} {H H1 H2 : Hp} (x : Kp b H H1) (y : Kp b H1 H2) : Kp b H H2 := fun a o n h => y a o n (x a o n h)
theorem Kp.of {b : Addr} {H H1 : Hp} (x : Sm H H1) : Kp b H H1 := fun a o _ h => x a o h
theorem kp_upd {b : Addr} {H : Hp} {o : HO} : Kp b H (upd H b o) := fun a x n h => by rw [upd_ne n]; exact h
theorem ne_new {H : Hp} {p b : Addr} {o : HO} (hp : H p = none) (hb : H b = some o) : p ≠ b := fun e => by rw [e, hb] at hp; cases hp
theorem Same.get {H H' : Hp} {a : Addr} {o : HO} (h : Sm H H') (k : H a = some o) : H' a = some o := h a o k
theorem Kp.get {b : Addr} {H H' : Hp} {a : Addr} {o : HO} (h : Kp b H H') (n : a ≠ b) (k : H a = some o) : H' a = some o := h a o n k
theorem ne_new2 {H : Hp} {p b : Addr} {o : HO} (hp : H p = none) (hb : H b = some o) : b ≠ p := fun e => by rw [← e, hb] at hp; cases hp
theorem sm_mut {H H1 H2 : Hp} {p : Addr} (s : Sm H H1) (n : H p = none) (k : Kp p H1 H2) : Sm H H2 := fun a o h => k a o (ne_of_none h n) (s a o h)
theorem kp_mut {b : Addr} {H H1 H2 : Hp} {p : Addr} (s : Kp b H H1) (n : H p = none) (k : Kp p H1 H2) : Kp b H H2 := fun a o m h => k a o (ne_of_none h n) (s a o m h)
theorem kp_free {b : Addr} {H H1 : Hp} {p : Addr} (s : Kp b H H1) (m : p ≠ b) (n : H1 p = none) : H p = none := by
  cases e : H p with
  | none => rfl
  | some o => rw [s p o m e] at n; cases n
theorem at_ints {ns : List Int} {i : Int} (h0 : 0 ≤ i) (h1 : i < ((ns.map V.int).length : Int)) : ∃ n, atI (ns.map V.int) i = some (.int n) := by
  obtain ⟨j, rfl⟩ := Int.eq_ofNat_of_zero_le h0
  have h2 : j < ns.length := by rw [List.length_map] at h1; omega
  exact ⟨ns[j], atI_nat (by rw [List.getElem?_map, List.getElem?_eq_getElem h2]; rfl)⟩
/-- a list that no one stores into: the script's -/
def SqF (K : PySem.W.Frag) (H : Hp) (a : Addr) (xs : List V) : Prop := (∃ o, H a = some (.frz o (.lst xs))) ∨
  ∃ (o : Obj) (its : Array Value) (n : Nat), K.lookup a = some o ∧ o.cls = .type "list" ∧ o.dict = none ∧ o.data = .seq its n ∧ its.size ≤ sizeLine ∧ Vals xs its.toList
theorem SqF.sq {K : PySem.W.Frag} {H : Hp} {a : Addr} {xs : List V} (h : SqF K H a xs) : SqL K H a xs := by
  rcases h with h | h
  · exact .inl (.inr h)
  · exact .inr h
theorem SqF.sm {K : PySem.W.Frag} {H H' : Hp} {a : Addr} {xs : List V} (h : SqF K H a xs) (e : Sm H H') : SqF K H' a xs := by
  rcases h with ⟨o, h⟩ | h
  · exact .inl ⟨o, e _ _ h⟩
  · exact .inr h
theorem SqF.kp {K : PySem.W.Frag} {H H' : Hp} {a b : Addr} {xs ys : List V} (h : SqF K H a xs) (hb : H b = some (.lst ys)) (e : Kp b H H') : SqF K H' a xs := by
  rcases h with ⟨o, h⟩ | h
  · exact .inl ⟨o, e _ _ (ne_of h hb (by intro z; cases z)) h⟩
  · exact .inr h
theorem SqF.of {K : PySem.W.Frag} {H : Hp} {a : Addr} {xs : List V} (hO : Only H) (h : SqL K H a xs) : SqF K H a xs := by
  rcases h with (h | h) | h
  · rcases hO a with e | ⟨o, ys, e⟩
    · rw [e] at h; cases h
    · rw [e] at h; cases h
  · exact .inl h
  · exact .inr h
theorem g_sqf {K : PySem.W.Frag} {H H0 : Hp} {a : Addr} {xs ys : List V} (_ : SqF K H0 a ys) (h : SqF K H a xs) : SqF K H a xs := h
theorem g_lk {H H0 : Hp} {a : Addr} {o o' : HO} (_ : H0 a = some o') (h : H a = some o) : H a = some o := h
theorem g_fr {H H0 : Hp} {a : Addr} (_ : H0 a = none) (h : H a = none) : H a = none := h
/-- a list of tuples of values as told -/
def AllT (P : List V → Prop) (xs : List V) (H : Hp) : Prop := ∀ x ∈ xs, ∃ t vs, x = .ref t ∧ H t = some (.tup vs) ∧ P vs
theorem AllT.nil {P : List V → Prop} {H : Hp} : AllT P [] H := fun _ h => by cases h
theorem AllT.sm {P : List V → Prop} {xs : List V} {H H' : Hp} (h : AllT P xs H) (e : Sm H H') : AllT P xs H' := fun x hx => by
  obtain ⟨t, vs, a, b, c⟩ := h x hx
  exact ⟨t, vs, a, e _ _ b, c⟩
theorem AllT.kp {P : List V → Prop} {xs ys : List V} {H H' : Hp} {b : Addr} (h : AllT P xs H) (hb : H b = some (.lst ys)) (e : Kp b H H') : AllT P xs H' := fun x hx => by
  obtain ⟨t, vs, a, k, c⟩ := h x hx
  exact ⟨t, vs, a, e _ _ (ne_of k hb (by intro z; cases z)) k, c⟩
theorem AllT.add {P : List V → Prop} {xs vs : List V} {H : Hp} {t : Addr} (h : AllT P xs H) (k : H t = some (.tup vs)) (p : P vs) : AllT P (xs ++ [.ref t]) H := fun x hx => by
  rcases List.mem_append.mp hx with hx | hx
  · exact h x hx
  · cases hx with
    | head => exact ⟨t, vs, rfl, k, p⟩
    | tail _ z => cases z
theorem AllT.app {P : List V → Prop} {xs ys : List V} {H : Hp} (h : AllT P xs H) (k : AllT P ys H) : AllT P (xs ++ ys) H := fun x hx => (List.mem_append.mp hx).elim (h x) (k x)
theorem AllT.cut {P : List V → Prop} {xs : List V} {lo hi : Option Int} {H : Hp} (h : AllT P xs H) : AllT P (cutV xs lo hi) H := fun x hx => h x (List.mem_of_mem_drop (List.mem_of_mem_take hx))
theorem AllT.at {P : List V → Prop} {xs : List V} {H : Hp} {n : Nat} {x : V} (h : AllT P xs H) (e : xs[n]? = some x) : ∃ t vs, x = .ref t ∧ H t = some (.tup vs) ∧ P vs := h x (List.mem_of_getElem? e)
theorem at_intE {ns : List Int} {i : Int} {j : Nat} {z : Int} (e : i = (j : Int)) (h : ns[j]? = some z) : atI (ns.map V.int) i = some (.int z) := by
  subst e
  exact atI_nat (by rw [List.getElem?_map, h]; rfl)
theorem d_of {p q : Prop} [Decidable p] [Decidable q] (h : p ↔ q) : decide p = decide q := decide_eq_decide.mpr h
theorem sq_of {K : PySem.W.Frag} {H : Hp} {a : Addr} {xs : List V} (h : H a = some (.lst xs)) : SqL K H a xs := Or.inl (Or.inl h)
theorem st_of {K : PySem.W.Frag} {H : Hp} {a : Addr} {xs : List V} (h : H a = some (.tup xs)) : SqT K H a xs := Or.inl (Or.inl h)
theorem kp_sq {K : PySem.W.Frag} {b : Addr} {H H' : Hp} {a : Addr} {xs : List V} (e : Kp b H H') (n : a ≠ b) (h : SqL K H a xs) : SqL K H' a xs := by
  rcases h with (h | ⟨o, h⟩) | h
  · exact .inl (.inl (e _ _ n h))
  · exact .inl (.inr ⟨o, e _ _ n h⟩)
  · exact .inr h
theorem sm_sq {K : PySem.W.Frag} {H H' : Hp} {a : Addr} {xs : List V} (e : Sm H H') (h : SqL K H a xs) : SqL K H' a xs := e.seq h
theorem sz_of {n : Nat} (h : n ≤ 100000) : n ≤ sizeLine := Nat.le_trans h (by decide)
theorem sz_lt {n : Nat} (h : n < 100000) : n < sizeLine := Nat.lt_of_lt_of_le h (by decide)
/-! ### what follows, by names of our own -/
def NX (D : Ends) : L2.St → Hp → Prop := D.nx
def BK (D : Ends) : L2.St → Hp → Prop := D.bk
def CT (D : Ends) : L2.St → Hp → Prop := D.ct
def RT (D : Ends) : VK := D.rt
def IsBl (x : V) (R : Bool → Prop) : Prop := ∃ k, x = .bl k ∧ R k
def SpC (sp : Sp) (vs : List V) (H : Hp) (Q : VK) (E : XK) : Prop := sp (vs ++ []) H Q E
def PartE (R : Option Int → Hp → Prop) (x : V) (H : Hp) : Prop := ∃ i, x = .int i ∧ R (some i) H
def BmE (K : PySem.W.Frag) (T : String) (x : V) (H : Hp) (R : Prop) : Prop := tyV K T x H ∧ R
def En (n : L2.St → Hp → Prop) (r : VK) (b c : L2.St → Hp → Prop) : Ends := { nx := n, rt := r, bk := b, ct := c }
/-! ### loops -/
def Rg1 (R : It → Hp → Prop) (vs : List V) (H : Hp) : Prop := ∃ j : Int, vs = [.int j] ∧ -(2 ^ 62) ≤ j ∧ j < 2 ^ 62 ∧ R (Itr 0 j.toNat) H
def Rg2 (R : It → Hp → Prop) (vs : List V) (H : Hp) : Prop := ∃ i j : Int, vs = [.int i, .int j] ∧ (-(2 ^ 62) ≤ i ∧ i < 2 ^ 62 ∧ -(2 ^ 62) ≤ j ∧ j < 2 ^ 62) ∧ R (Itr i (j - i).toNat) H
def LsE (K : PySem.W.Frag) (R : It → Hp → Prop) (x : V) (H : Hp) : Prop := ∃ a, x = .ref a ∧ (∃ xs, SqL K H a xs) ∧ R (Itl K a) H
def TpE (K : PySem.W.Frag) (R : It → Hp → Prop) (x : V) (H : Hp) : Prop := ∃ a, x = .ref a ∧ (∃ xs, SqT K H a xs) ∧ R (Itt K a) H
def Loop (J : It) (g : TG) (tb : TS) : TS := fun D σ H => ∃ W : Nat → Nat → L2.St → Hp → Prop, (∃ m, W 0 m σ H) ∧ ∀ i m σ H, W i m σ H →
  (J.stop i H ∧ D.nx σ H) ∨ (J.go i H ∧ ∃ N : L2.St → Hp → Prop, (∀ σ' H', N σ' H' → ∃ m', m' < m ∧ W (i + 1) m' σ' H') ∧ ∀ x H', J.yld i H x H' → g x σ H' fun σ2 H2 => tb { D with nx := N, ct := N, bk := D.nx } σ2 H2)
section
variable {σ : L2.St} {H : Hp} {D : Ends} {K : PySem.W.Frag} {g : TG} {tb : TS} {ta : TA} {te : TE} {c : TT}
theorem w_for {wi : TI} (k : wi σ H fun J H1 => Loop J g tb D σ H1) : tFor wi g tb D σ H := k
theorem w_iR1 {R : It → Hp → Prop} (k : ta σ H fun vs H1 => Rg1 R vs H1) : iRng1 ta σ H R := k
theorem w_iR1e {n : Int} {R : It → Hp → Prop} (h1 : -(2 ^ 62) ≤ n) (h2 : n < 2 ^ 62) (k : R (Itr 0 n.toNat) H) : Rg1 R [V.int n] H := ⟨n, rfl, h1, h2, k⟩
theorem w_iR2 {R : It → Hp → Prop} (k : ta σ H fun vs H1 => Rg2 R vs H1) : iRng2 ta σ H R := k
theorem w_iR2e {m n : Int} {R : It → Hp → Prop} (h : -(2 ^ 62) ≤ m ∧ m < 2 ^ 62 ∧ -(2 ^ 62) ≤ n ∧ n < 2 ^ 62) (k : R (Itr m (n - m).toNat) H) : Rg2 R [V.int m, V.int n] H := ⟨m, n, rfl, h, k⟩
theorem w_iL {R : It → Hp → Prop} (k : te σ H fun x H1 => LsE K R x H1) : iList K te σ H R := k
theorem w_iLe {a : Addr} {xs : List V} {R : It → Hp → Prop} (h : SqL K H a xs) (k : R (Itl K a) H) : LsE K R (.ref a) H := ⟨a, rfl, ⟨xs, h⟩, k⟩
theorem w_iT {R : It → Hp → Prop} (k : te σ H fun x H1 => TpE K R x H1) : iTup K te σ H R := k
theorem w_iTe {a : Addr} {xs : List V} {R : It → Hp → Prop} (h : SqT K H a xs) (k : R (Itt K a) H) : TpE K R (.ref a) H := ⟨a, rfl, ⟨xs, h⟩, k⟩
theorem loopR {lo : Int} {n : Nat} (Pv : Nat → L2.St → Hp → Prop) (h0 : Pv 0 σ H) (hs : ∀ i σ H, i < n → Pv i σ H → g (.int (lo + i)) σ H fun σ2 H2 => tb (En (Pv (i + 1)) (RT D) (NX D) (Pv (i + 1))) σ2 H2)
    (hd : ∀ σ H, Pv n σ H → NX D σ H) : Loop (Itr lo n) g tb D σ H := for_range Pv h0 hs hd
theorem loopL {a : Addr} {xs : List V} (Pv : Nat → L2.St → Hp → Prop) (h0 : Pv 0 σ H) (hl : ∀ i σ H, i ≤ xs.length → Pv i σ H → SqL K H a xs)
    (hs : ∀ i x σ H, xs[i]? = some x → Pv i σ H → g x σ H fun σ2 H2 => tb (En (Pv (i + 1)) (RT D) (NX D) (Pv (i + 1))) σ2 H2) (hd : ∀ σ H, Pv xs.length σ H → NX D σ H) : Loop (Itl K a) g tb D σ H := for_list Pv h0 hl hs hd
theorem loopT {a : Addr} {xs : List V} (Pv : Nat → L2.St → Hp → Prop) (h0 : Pv 0 σ H) (hl : ∀ i σ H, i ≤ xs.length → Pv i σ H → SqT K H a xs)
    (hs : ∀ i x σ H, xs[i]? = some x → Pv i σ H → g x σ H fun σ2 H2 => tb (En (Pv (i + 1)) (RT D) (NX D) (Pv (i + 1))) σ2 H2) (hd : ∀ σ H, Pv xs.length σ H → NX D σ H) : Loop (Itt K a) g tb D σ H := for_tup Pv h0 hl hs hd
def WT (Pv : Nat → L2.St → Hp → Prop) (m : Nat) (tb : TS) (D : Ends) (σ : L2.St) (H : Hp) : Prop := ∃ N : L2.St → Hp → Prop, (∀ σ' H', N σ' H' → ∃ m', m' < m ∧ Pv m' σ' H') ∧ tb { D with nx := N, ct := N, bk := D.nx } σ H
def WN (Pv : Nat → L2.St → Hp → Prop) (m : Nat) : L2.St → Hp → Prop := fun σ2 H2 => ∃ m', m' < m ∧ Pv m' σ2 H2
theorem w_wt {Pv : Nat → L2.St → Hp → Prop} {m : Nat} (k : tb (En (WN Pv m) (RT D) (NX D) (WN Pv m)) σ H) : WT Pv m tb D σ H := ⟨_, fun _ _ z => z, k⟩
theorem w_while (Pv : Nat → L2.St → Hp → Prop) (m0 : Nat) (h0 : Pv m0 σ H)
    (hs : ∀ m σ' H', Pv m σ' H' → c σ' H' fun b H1 => if b = true then WT Pv m tb D σ' H1 else NX D σ' H1) : tWhile c tb D σ H := ⟨Pv, ⟨m0, h0⟩, hs⟩
end
/-! ### list comprehensions -/
def LcL (J : It) (g : TG) (tt : TT) (te : TE) (vs : List Nat) (σ : L2.St) (H1 : Hp) (Q : VK) : Prop := ∀ D, H1 D = none → ∃ W : Nat → Nat → Hp → Prop, (∃ m, W 0 m (upd H1 D (.lst []))) ∧ ∀ i m H, W i m H →
  (J.stop i H ∧ Q (.ref D) H) ∨ (J.go i H ∧ ∃ Nx : Hp → Prop, (∀ H', Nx H' → ∃ m', m' < m ∧ W (i + 1) m' H') ∧ ∀ x H', J.yld i H x H' → g x (wipe σ vs) H' fun σ2 H2 => wipe σ2 vs = wipe σ vs ∧ tt σ2 H2 fun b H3 =>
    if b = true then te σ2 H3 fun y H4 => ∃ acc, H4 D = some (.lst acc) ∧ acc.length < sizeLine ∧ Nx (upd H4 D (.lst (acc ++ [y]))) else Nx H3)
def LcEnd (D : Addr) (y : V) (R : Hp → Prop) (H : Hp) : Prop := ∃ acc, H D = some (.lst acc) ∧ acc.length < sizeLine ∧ R (upd H D (.lst (acc ++ [y])))
def LcGo (vs : List Nat) (σ σ2 : L2.St) (R : Prop) : Prop := wipe σ2 vs = wipe σ vs ∧ R
section
variable {σ : L2.St} {H : Hp} {Q : VK} {g : TG} {tt : TT} {te : TE} {vs : List Nat} {K : PySem.W.Frag}
theorem w_lc {wi : TI} (k : wi σ H fun J H1 => LcL J g tt te vs σ H1 Q) : tLc wi g tt te vs σ H Q := k
theorem w_lcEnd {D : Addr} {y : V} {acc : List V} {R : Hp → Prop} (h : H D = some (.lst acc)) (z : acc.length < sizeLine) (k : ∀ H', Kp D H H' → H' D = some (.lst (acc ++ [y])) → R H') : LcEnd D y R H := ⟨acc, h, z, k _ kp_upd upd_same⟩
theorem w_lcGo {σ2 : L2.St} {R : Prop} (e : wipe σ2 vs = wipe σ vs) (k : R) : LcGo vs σ σ2 R := ⟨e, k⟩
theorem w_yes {QT : Bool → Hp → Prop} (k : QT true H) : tYes σ H QT := k
theorem lcR {lo : Int} {n : Nat} (Pv : Addr → Nat → Hp → Prop) (h0 : ∀ D H', H D = none → Sm H H' → H' D = some (.lst []) → Pv D 0 H')
    (hs : ∀ D i H', H D = none → i < n → Pv D i H' → g (.int (lo + i)) (wipe σ vs) H' fun σ2 H2 => LcGo vs σ σ2 (tt σ2 H2 fun b H3 => if b = true then te σ2 H3 fun y H4 => LcEnd D y (Pv D (i + 1)) H4 else Pv D (i + 1) H3))
    (hd : ∀ D H', H D = none → Pv D n H' → Q (.ref D) H') : LcL (Itr lo n) g tt te vs σ H Q := fun D hD =>
  lc_range (Pv D) (h0 D _ hD (sm_new hD) upd_same) (fun i H' hi p => hs D i H' hD hi p) (fun H' p => hd D H' hD p)
theorem lcLs {a : Addr} {xs : List V} (Pv : Addr → Nat → Hp → Prop) (h0 : ∀ D H', H D = none → Sm H H' → H' D = some (.lst []) → Pv D 0 H') (hl : ∀ D i H', H D = none → i ≤ xs.length → Pv D i H' → SqL K H' a xs)
    (hs : ∀ D i x H', H D = none → xs[i]? = some x → Pv D i H' → g x (wipe σ vs) H' fun σ2 H2 => LcGo vs σ σ2 (tt σ2 H2 fun b H3 => if b = true then te σ2 H3 fun y H4 => LcEnd D y (Pv D (i + 1)) H4 else Pv D (i + 1) H3))
    (hd : ∀ D H', H D = none → Pv D xs.length H' → Q (.ref D) H') : LcL (Itl K a) g tt te vs σ H Q := fun D hD =>
  lc_list (xs := xs) (Pv D) (h0 D _ hD (sm_new hD) upd_same) (fun i H' hi p => hl D i H' hD hi p) (fun i x H' hi p => hs D i x H' hD hi p) (fun H' p => hd D H' hD p)
theorem lcTp {a : Addr} {xs : List V} (Pv : Addr → Nat → Hp → Prop) (h0 : ∀ D H', H D = none → Sm H H' → H' D = some (.lst []) → Pv D 0 H') (hl : ∀ D i H', H D = none → i ≤ xs.length → Pv D i H' → SqT K H' a xs)
    (hs : ∀ D i x H', H D = none → xs[i]? = some x → Pv D i H' → g x (wipe σ vs) H' fun σ2 H2 => LcGo vs σ σ2 (tt σ2 H2 fun b H3 => if b = true then te σ2 H3 fun y H4 => LcEnd D y (Pv D (i + 1)) H4 else Pv D (i + 1) H3))
    (hd : ∀ D H', H D = none → Pv D xs.length H' → Q (.ref D) H') : LcL (Itt K a) g tt te vs σ H Q := fun D hD =>
  lc_tup (xs := xs) (Pv D) (h0 D _ hD (sm_new hD) upd_same) (fun i H' hi p => hl D i H' hD hi p) (fun i x H' hi p => hs D i x H' hD hi p) (fun H' p => hd D H' hD p)
end
/-! ### keywords -/
theorem rel_0 {r1 : List Value} (h : Vals [] r1) : r1 = [] := by cases h; rfl
theorem rel_1 {x : V} {xs : List V} {us : List Value} (h : Vals (x :: xs) us) : ∃ u vs, us = u :: vs ∧ RelV x u ∧ Vals xs vs := by
  cases h with
  | cons a b => exact ⟨_, _, rfl, a, b⟩
/-! ### steps -/
section
variable {σ : L2.St} {H : Hp} {Q : VK} {QT : Bool → Hp → Prop} {QA : List V → Hp → Prop} {D : Ends} {K : PySem.W.Frag} {te ta tb : TE} {tt tu : TT} {t1 t2 : TS} {v x y : V} {i j : Int} {b : Bool}
theorem w_var {n : Nat} (h : σ[n]? = some (some v)) (k : Q v H) : tVar n σ H Q := ⟨v, h, k⟩
theorem w_c (k : Q v H) : tC v σ H Q := k
theorem w_op {r : R2} (k : ta σ H fun x H1 => tb σ H1 fun y H2 => r x y H2 Q) : tOp r ta tb σ H Q := k
theorem w_un {r : V → Hp → VK → Prop} (k : ta σ H fun x H1 => r x H1 Q) : tUn r ta σ H Q := k
theorem w_rU {g : Int → V} (k : Q (g i) H) : rU g (.int i) H Q := ⟨i, rfl, k⟩
theorem inV_S2 {s a c : Str} : inV (.str s) [.str a, .str c] = decide (s = a ∨ s = c) := by
  show ((a == s) || ((c == s) || false)) = _
  rw [Bool.or_false]
  by_cases h1 : s = a
  · subst h1; simp
  · by_cases h2 : s = c
    · subst h2; simp
    · have e1 : (a == s) = false := by simpa using fun e : a = s => h1 e.symm
      have e2 : (c == s) = false := by simpa using fun e : c = s => h2 e.symm
      rw [e1, e2, decide_eq_false (by rintro (h | h); exact h1 h; exact h2 h)]
      rfl
theorem w_inS2 {p : Addr} {s a c : Str} (h : SqT K H p [.str a, .str c]) (k : Q (.bl (decide (s = a ∨ s = c))) H) : rIn K false (.str s) (.ref p) H Q := ⟨p, _, rfl, .inr h, rfl, rfl, by rw [inV_S2]; exact k⟩
theorem w_niS2 {p : Addr} {s a c : Str} (h : SqT K H p [.str a, .str c]) (k : Q (.bl (!decide (s = a ∨ s = c))) H) : rIn K true (.str s) (.ref p) H Q := ⟨p, _, rfl, .inr h, rfl, rfl, by rw [inV_S2]; exact k⟩
theorem w_cb {r : List V → Hp → VK → Prop} {t : TA} (k : t σ H fun vs H1 => r vs H1 Q) : tCB r t σ H Q := k
theorem w_nil (k : QA [] H) : tNil σ H QA := k
theorem w_cons {tr : TA} (k : ta σ H fun x H1 => tr σ H1 fun xs H2 => QA (x :: xs) H2) : tCons ta tr σ H QA := k
def NewL (xs : List V) (H : Hp) (Q : VK) : Prop := xs.length ≤ sizeLine ∧ ∀ p, H p = none → Q (.ref p) (upd H p (.lst xs))
def NewT (xs : List V) (H : Hp) (Q : VK) : Prop := xs.length ≤ sizeLine ∧ ∀ p, H p = none → Q (.ref p) (upd H p (.tup xs))
theorem w_lst {t : TA} (k : t σ H fun xs H1 => NewL xs H1 Q) : tLst t σ H Q := k
theorem w_tup {t : TA} (k : t σ H fun xs H1 => NewT xs H1 Q) : tTup t σ H Q := k
theorem w_newL {xs : List V} (z : xs.length ≤ sizeLine) (k : ∀ p H', H p = none → Sm H H' → H' p = some (.lst xs) → Q (.ref p) H') : NewL xs H Q := ⟨z, fun p hp => k p _ hp (sm_new hp) upd_same⟩
theorem w_newT {xs : List V} (z : xs.length ≤ sizeLine) (k : ∀ p H', H p = none → Sm H H' → H' p = some (.tup xs) → Q (.ref p) H') : NewT xs H Q := ⟨z, fun p hp => k p _ hp (sm_new hp) upd_same⟩
theorem w_call {sp : Sp} {E : XK} {t : TA} (k : t σ H fun vs H1 => SpC sp vs H1 Q E) : tCall sp [] E t σ H Q := k
theorem w_sp {sp : Sp} {E : XK} {vs : List V} (k : sp vs H Q E) : SpC sp vs H Q E := by unfold SpC; rw [List.append_nil]; exact k
theorem w_callK {sp : Sp} {gV : List V → List V → List V} {E : XK} {t tk : TA} (k : t σ H fun vs H1 => tk σ H1 fun zs H2 => sp (gV vs zs) H2 Q E) : tCallK sp gV E t tk σ H Q := k
/-! values of operations -/
theorem w_ixL' {p : Addr} {xs : List V} (h : SqL K H p xs) (a : atI xs i = some v) (k : Q v H) : rIx K (.ref p) (.int i) H Q := .inl ⟨p, xs, i, v, rfl, rfl, h, a, k⟩
theorem w_addI (k : Q (.int (i + j)) H) : gAdd K (.int i) (.int j) H Q := .inl ⟨i, j, rfl, rfl, k⟩
theorem w_addS {a b : Str} (z : a.length + b.length ≤ sizeLine) (k : Q (.str (a ++ b)) H) : gAdd K (.str a) (.str b) H Q := .inr (.inl ⟨a, b, rfl, rfl, z, k⟩)
theorem w_addL {l m : Addr} {xs ys : List V} (h1 : H l = some (.lst xs)) (h2 : H m = some (.lst ys)) (z : xs.length + ys.length ≤ sizeLine) (k : ∀ p H', H p = none → Sm H H' → H' p = some (.lst (xs ++ ys)) → Q (.ref p) H') :
    gAdd K (.ref l) (.ref m) H Q := .inr (.inr (.inl ⟨l, m, xs, ys, rfl, rfl, h1, h2, z, fun p hp => k p _ hp (sm_new hp) upd_same⟩))
theorem w_I0 {g : Int → Int → V} (k : Q (g i j) H) : rI0 g (.int i) (.int j) H Q := ⟨i, j, rfl, rfl, k⟩
theorem w_I {C : Int → Int → Prop} {g : Int → Int → V} (c : C i j) (k : Q (g i j) H) : rI C g (.int i) (.int j) H Q := ⟨i, j, rfl, rfl, c, k⟩
theorem w_mulI (c : CM i j) (k : Q (.int (i * j)) H) : gMul (.int i) (.int j) H Q := by
  rcases c with c | c
  · exact .inl ⟨i, j, rfl, rfl, c, k⟩
  · exact .inr (.inl ⟨i, j, rfl, rfl, c, k⟩)
theorem w_divI (c : CDivW i j) (k : Q (.int (i / j)) H) : gDiv (.int i) (.int j) H Q := ⟨i, j, rfl, rfl, c, k⟩
theorem w_modI (c : 0 < j) (k : Q (.int (i % j)) H) : gMod (.int i) (.int j) H Q := ⟨i, j, rfl, rfl, c, k⟩
theorem w_modF (c : 0 < j) (k : ∀ z : Int, z = i % j → 0 ≤ z → z < j → (0 ≤ i → z ≤ i) → Q (.int z) H) : gMod (.int i) (.int j) H Q :=
  w_modI c (k _ rfl (Int.emod_nonneg _ (Int.ne_of_gt c)) (Int.emod_lt_of_pos _ c) fun h => by
    by_cases h2 : i < j
    · rw [Int.emod_eq_of_lt h h2]; exact Int.le_refl _
    · have := Int.emod_lt_of_pos i c
      omega)
theorem w_shlI (c : CShl i j) (k : Q (.int (i * 2 ^ j.toNat)) H) : gShl (.int i) (.int j) H Q := ⟨i, j, rfl, rfl, c, k⟩
theorem w_powI (c : CPow i j) (k : Q (.int (i ^ j.toNat)) H) : gPow (.int i) (.int j) H Q := ⟨i, j, rfl, rfl, c, k⟩
theorem w_shr1 (k : Q (.int (i / 2)) H) : gShr (.int i) (.int 1) H Q := ⟨i, 1, rfl, rfl, (show (0 : Int) ≤ 1 by decide), (show Q (.int (i / 2 ^ Int.toNat 1)) H from k)⟩
theorem w_iaddI (k : Q (.int (i + j)) H) : gIAdd (.int i) (.int j) H Q := .inl ⟨i, j, rfl, rfl, k⟩
theorem w_iaddS {a b : Str} (z : a.length + b.length ≤ sizeLine) (k : Q (.str (a ++ b)) H) : gIAdd (.str a) (.str b) H Q := .inr ⟨a, b, rfl, rfl, z, k⟩
theorem w_imulI (c : CM i j) (k : Q (.int (i * j)) H) : gIMul (.int i) (.int j) H Q := by
  rcases c with c | c
  · exact .inl ⟨i, j, rfl, rfl, c, k⟩
  · exact .inr ⟨i, j, rfl, rfl, c, k⟩
theorem w_xorI (k : Q (.int (Builtin.bitXor i j)) H) : gXor (.int i) (.int j) H Q := ⟨i, j, rfl, rfl, k⟩
theorem w_isiIb (k : Q (.bl false) H) : rIsi K [.int i, .ty "bool"] H Q := ⟨_, _, _, _, _, rfl, .ty _, .base (.int _), kit_ty (by decide +kernel), k⟩
theorem w_isiIi (k : Q (.bl true) H) : rIsi K [.int i, .ty "int"] H Q := ⟨_, _, _, _, _, rfl, .ty _, .base (.int _), kit_ty (by decide +kernel), k⟩
theorem w_isiBb (k : Q (.bl true) H) : rIsi K [.bl b, .ty "bool"] H Q := ⟨_, _, _, _, _, rfl, .ty _, .base (.bl _), kit_ty (by decide +kernel), k⟩
theorem w_isiSs {s : Str} (k : Q (.bl true) H) : rIsi K [.str s, .ty "str"] H Q := ⟨_, _, _, _, _, rfl, .ty _, .base (.str _), kit_ty (by decide +kernel), k⟩
theorem w_isiTup {a : Addr} {xs : List V} (h : H a = some (.tup xs)) (k : Q (.bl true) H) : rIsi K [.ref a, .ty "tuple"] H Q := ⟨_, _, _, _, _, rfl, .ty _, .base (.tup h), kit_ty (by decide +kernel), k⟩
theorem w_ixInts {p : Addr} {ns : List Int} (h : SqL K H p (ns.map V.int)) (h0 : 0 ≤ i) (h1 : i < ((ns.map V.int).length : Int)) (k : ∀ n : Int, n ∈ ns → Q (.int n) H) : rIx K (.ref p) (.int i) H Q := by
  obtain ⟨j, rfl⟩ := Int.eq_ofNat_of_zero_le h0
  have h2 : j < ns.length := by rw [List.length_map] at h1; omega
  exact w_ixL' h (atI_nat (by rw [List.getElem?_map, List.getElem?_eq_getElem h2]; rfl)) (k _ (List.getElem_mem h2))
theorem w_ix2I {p : Addr} {x y : Int} (h : SqL K H p [.int x, .int y]) (h0 : 0 ≤ i) (h1 : i < 2) (k : ∀ z : Int, i = 0 ∧ z = x ∨ i = 1 ∧ z = y → Q (.int z) H) : rIx K (.ref p) (.int i) H Q := by
  rcases (show i = 0 ∨ i = 1 by omega) with rfl | rfl
  · exact w_ixL' h (atI_nat (j := 0) rfl) (k _ (.inl ⟨rfl, rfl⟩))
  · exact w_ixL' h (atI_nat (j := 1) rfl) (k _ (.inr ⟨rfl, rfl⟩))
theorem w_ix3I {p : Addr} {x0 x1 x2 : Int} (h : SqL K H p [.int x0, .int x1, .int x2]) (h0 : 0 ≤ i) (h1 : i < 3) (k : ∀ z : Int, z = x0 ∨ z = x1 ∨ z = x2 → Q (.int z) H) : rIx K (.ref p) (.int i) H Q := by
  rcases (show i = 0 ∨ i = 1 ∨ i = 2 by omega) with rfl | rfl | rfl
  · exact w_ixL' h (atI_nat (j := 0) rfl) (k _ (by omega))
  · exact w_ixL' h (atI_nat (j := 1) rfl) (k _ (by omega))
  · exact w_ixL' h (atI_nat (j := 2) rfl) (k _ (by omega))
theorem w_ix4I {p : Addr} {x0 x1 x2 x3 : Int} (h : SqL K H p [.int x0, .int x1, .int x2, .int x3]) (h0 : 0 ≤ i) (h1 : i < 4) (k : ∀ z : Int, z = x0 ∨ z = x1 ∨ z = x2 ∨ z = x3 → Q (.int z) H) : rIx K (.ref p) (.int i) H Q := by
  rcases (show i = 0 ∨ i = 1 ∨ i = 2 ∨ i = 3 by omega) with rfl | rfl | rfl | rfl
  · exact w_ixL' h (atI_nat (j := 0) rfl) (k _ (by omega))
  · exact w_ixL' h (atI_nat (j := 1) rfl) (k _ (by omega))
  · exact w_ixL' h (atI_nat (j := 2) rfl) (k _ (by omega))
  · exact w_ixL' h (atI_nat (j := 3) rfl) (k _ (by omega))
theorem w_ix5I {p : Addr} {x0 x1 x2 x3 x4 : Int} (h : SqL K H p [.int x0, .int x1, .int x2, .int x3, .int x4]) (h0 : 0 ≤ i) (h1 : i < 5) (k : ∀ z : Int, z = x0 ∨ z = x1 ∨ z = x2 ∨ z = x3 ∨ z = x4 → Q (.int z) H) : rIx K (.ref p) (.int i) H Q := by
  rcases (show i = 0 ∨ i = 1 ∨ i = 2 ∨ i = 3 ∨ i = 4 by omega) with rfl | rfl | rfl | rfl | rfl
  · exact w_ixL' h (atI_nat (j := 0) rfl) (k _ (by omega))
  · exact w_ixL' h (atI_nat (j := 1) rfl) (k _ (by omega))
  · exact w_ixL' h (atI_nat (j := 2) rfl) (k _ (by omega))
  · exact w_ixL' h (atI_nat (j := 3) rfl) (k _ (by omega))
  · exact w_ixL' h (atI_nat (j := 4) rfl) (k _ (by omega))
theorem w_ix6I {p : Addr} {x0 x1 x2 x3 x4 x5 : Int} (h : SqL K H p [.int x0, .int x1, .int x2, .int x3, .int x4, .int x5]) (h0 : 0 ≤ i) (h1 : i < 6) (k : ∀ z : Int, z = x0 ∨ z = x1 ∨ z = x2 ∨ z = x3 ∨ z = x4 ∨ z = x5 → Q (.int z) H) : rIx K (.ref p) (.int i) H Q := by
  rcases (show i = 0 ∨ i = 1 ∨ i = 2 ∨ i = 3 ∨ i = 4 ∨ i = 5 by omega) with rfl | rfl | rfl | rfl | rfl | rfl
  · exact w_ixL' h (atI_nat (j := 0) rfl) (k _ (by omega))
  · exact w_ixL' h (atI_nat (j := 1) rfl) (k _ (by omega))
  · exact w_ixL' h (atI_nat (j := 2) rfl) (k _ (by omega))
  · exact w_ixL' h (atI_nat (j := 3) rfl) (k _ (by omega))
  · exact w_ixL' h (atI_nat (j := 4) rfl) (k _ (by omega))
  · exact w_ixL' h (atI_nat (j := 5) rfl) (k _ (by omega))
theorem w_ix7I {p : Addr} {x0 x1 x2 x3 x4 x5 x6 : Int} (h : SqL K H p [.int x0, .int x1, .int x2, .int x3, .int x4, .int x5, .int x6]) (h0 : 0 ≤ i) (h1 : i < 7) (k : ∀ z : Int, z = x0 ∨ z = x1 ∨ z = x2 ∨ z = x3 ∨ z = x4 ∨ z = x5 ∨ z = x6 → Q (.int z) H) : rIx K (.ref p) (.int i) H Q := by
  rcases (show i = 0 ∨ i = 1 ∨ i = 2 ∨ i = 3 ∨ i = 4 ∨ i = 5 ∨ i = 6 by omega) with rfl | rfl | rfl | rfl | rfl | rfl | rfl
  · exact w_ixL' h (atI_nat (j := 0) rfl) (k _ (by omega))
  · exact w_ixL' h (atI_nat (j := 1) rfl) (k _ (by omega))
  · exact w_ixL' h (atI_nat (j := 2) rfl) (k _ (by omega))
  · exact w_ixL' h (atI_nat (j := 3) rfl) (k _ (by omega))
  · exact w_ixL' h (atI_nat (j := 4) rfl) (k _ (by omega))
  · exact w_ixL' h (atI_nat (j := 5) rfl) (k _ (by omega))
  · exact w_ixL' h (atI_nat (j := 6) rfl) (k _ (by omega))
theorem w_ix8I {p : Addr} {x0 x1 x2 x3 x4 x5 x6 x7 : Int} (h : SqL K H p [.int x0, .int x1, .int x2, .int x3, .int x4, .int x5, .int x6, .int x7]) (h0 : 0 ≤ i) (h1 : i < 8) (k : ∀ z : Int, z = x0 ∨ z = x1 ∨ z = x2 ∨ z = x3 ∨ z = x4 ∨ z = x5 ∨ z = x6 ∨ z = x7 → Q (.int z) H) : rIx K (.ref p) (.int i) H Q := by
  rcases (show i = 0 ∨ i = 1 ∨ i = 2 ∨ i = 3 ∨ i = 4 ∨ i = 5 ∨ i = 6 ∨ i = 7 by omega) with rfl | rfl | rfl | rfl | rfl | rfl | rfl | rfl
  · exact w_ixL' h (atI_nat (j := 0) rfl) (k _ (by omega))
  · exact w_ixL' h (atI_nat (j := 1) rfl) (k _ (by omega))
  · exact w_ixL' h (atI_nat (j := 2) rfl) (k _ (by omega))
  · exact w_ixL' h (atI_nat (j := 3) rfl) (k _ (by omega))
  · exact w_ixL' h (atI_nat (j := 4) rfl) (k _ (by omega))
  · exact w_ixL' h (atI_nat (j := 5) rfl) (k _ (by omega))
  · exact w_ixL' h (atI_nat (j := 6) rfl) (k _ (by omega))
  · exact w_ixL' h (atI_nat (j := 7) rfl) (k _ (by omega))
theorem w_mulS {a : Str} (c : MulOk a i) (k : Q (.str (Txt.mul a i)) H) : gMulS (.str a) (.int i) H Q := ⟨a, i, rfl, rfl, c, k⟩
theorem shl1_ok (h0 : 0 ≤ j) (h : j ≤ 1000000) : CShl 1 j := by
  refine ⟨h0, ?_⟩
  have : Builtin.Int.intBits 1 ≤ 1 := intBits_le (by decide)
  omega
theorem pow_bd {m : Nat} (h : j ≤ (m : Int)) : 1 ≤ 1 * (2 : Int) ^ j.toNat ∧ 1 * (2 : Int) ^ j.toNat ≤ 2 ^ m ∧ (1 ≤ j → 2 ≤ 1 * (2 : Int) ^ j.toNat) := by
  have e : ∀ n : Nat, (2 : Int) ^ n = ((2 ^ n : Nat) : Int) := fun n => by rw [Int.natCast_pow]; rfl
  have h1 : 2 ^ j.toNat ≤ 2 ^ m := Nat.pow_le_pow_right (by decide) (by omega)
  have h2 : 0 < 2 ^ j.toNat := Nat.two_pow_pos _
  rw [Int.one_mul, e, e]
  refine ⟨by omega, by omega, fun hj => ?_⟩
  have h3 : 2 ^ 1 ≤ 2 ^ j.toNat := Nat.pow_le_pow_right (by decide) (by omega)
  omega
theorem and_nat {a b : Nat} : Builtin.bitAnd (a : Int) (b : Int) = ((a &&& b : Nat) : Int) := by
  have h := bitAnd_pp (Int.natCast_nonneg a) (Int.natCast_nonneg b)
  rw [Int.toNat_natCast, Int.toNat_natCast] at h
  exact h
theorem and_bd (h0 : 0 ≤ i) (h1 : 0 ≤ j) : 0 ≤ Builtin.bitAnd i j ∧ Builtin.bitAnd i j ≤ i ∧ Builtin.bitAnd i j ≤ j := by
  obtain ⟨a, rfl⟩ := Int.eq_ofNat_of_zero_le h0
  obtain ⟨b, rfl⟩ := Int.eq_ofNat_of_zero_le h1
  rw [and_nat]
  have e1 := @Nat.and_le_left a b
  have e2 := @Nat.and_le_right a b
  omega
def gOr : R2 := rI0 fun i j => .int (Builtin.bitOr i j)
theorem op_gOr {X : Cx} : OpR X (binaryOp .BitOr) gOr := L2.op_or
theorem w_orF (h0 : 0 ≤ i) (h1 : 0 ≤ j) (k : ∀ z : Int, z = Builtin.bitOr i j → 0 ≤ z → z ≤ i + j → Q (.int z) H) : gOr (.int i) (.int j) H Q := ⟨i, j, rfl, rfl, k _ rfl (by rw [L2.bitOr_nn h0 h1]; exact Int.natCast_nonneg _) (by rw [bitOr_and]; have := (and_bd h0 h1).1; omega)⟩
theorem dV_bl {s t : Bool} : decide (V.bl s = V.bl t) = decide (s = t) := by cases s <;> cases t <;> rfl
theorem w_eqB {s t : Bool} (k : Q (.bl (decide (s = t))) H) : gEq K (.bl s) (.bl t) H Q := .inl ⟨rfl, by rw [dV_bl]; exact k⟩
theorem w_neB {s t : Bool} (k : Q (.bl (!decide (s = t))) H) : gNe K (.bl s) (.bl t) H Q := .inl ⟨rfl, by rw [dV_bl]; exact k⟩
def gIs : R2 := fun x y H Q => y = .non ∧ Q (.bl (decide (x = .non))) H
def gNot : R2 := fun x y H Q => y = .non ∧ Q (.bl (!decide (x = .non))) H
theorem op_gIs {X : Cx} : OpR X (compareOp .Is) gIs := op_isN
theorem op_gNot {X : Cx} : OpR X (compareOp .IsNot) gNot := op_notN
theorem op_gIsB {X : Cx} : OpR X (compareOp .Is) rIsB := op_isBl
theorem op_gNotB {X : Cx} : OpR X (compareOp .IsNot) rNotB := op_notBl
theorem w_isN0 (k : Q (.bl true) H) : gIs .non .non H Q := ⟨rfl, by simpa using k⟩
theorem w_notN0 (k : Q (.bl false) H) : gNot .non .non H Q := ⟨rfl, by simpa using k⟩
theorem w_isNx (h : x ≠ .non) (k : Q (.bl false) H) : gIs x .non H Q := ⟨rfl, by rw [decide_eq_false h]; exact k⟩
theorem w_notNx (h : x ≠ .non) (k : Q (.bl true) H) : gNot x .non H Q := ⟨rfl, by rw [decide_eq_false h]; exact k⟩
theorem w_isBT (k : Q (.bl b) H) : rIsB (.bl b) (.bl true) H Q := ⟨b, true, rfl, rfl, by cases b <;> exact k⟩
theorem w_notBT (k : Q (.bl (!b)) H) : rNotB (.bl b) (.bl true) H Q := ⟨b, true, rfl, rfl, by cases b <;> exact k⟩
theorem w_sum {p : Addr} {ns : List Int} (h : SqL K H p (ns.map V.int)) (k : Q (.int ns.sum) H) : rSum K [.ref p] H Q := ⟨p, ns, rfl, h, k⟩
theorem w_all {p : Addr} {bs : List Bool} (h : SqL K H p (bs.map V.bl)) (k : Q (.bl (bs.all id)) H) : rAll K [.ref p] H Q := ⟨p, bs, rfl, h, k⟩
theorem w_shl1F (h0 : 0 ≤ j) (h : j ≤ 1000000) (k : ∀ z : Int, z = 2 ^ j.toNat → 1 ≤ z → (1 ≤ j → 2 ≤ z) → (j ≤ 9 → z ≤ 512) → (j ≤ 40 → z ≤ 1099511627776) → Q (.int z) H) : gShl (.int 1) (.int j) H Q := by
  obtain ⟨q1, q2, q3⟩ := pow_bd (j := j) (m := 1000000) (by omega)
  rw [Int.one_mul] at q1 q3
  refine w_shlI (shl1_ok h0 h) ?_
  rw [Int.one_mul]
  exact k _ rfl q1 q3 (fun h => by have := (pow_bd (j := j) (m := 9) (by omega)).2.1; rw [Int.one_mul] at this; omega) (fun h => by have := (pow_bd (j := j) (m := 40) (by omega)).2.1; rw [Int.one_mul] at this; omega)
theorem w_andF (h0 : 0 ≤ i) (h1 : 0 ≤ j) (k : ∀ z : Int, z = Builtin.bitAnd i j → 0 ≤ z → z ≤ i → z ≤ j → Q (.int z) H) : gAnd (.int i) (.int j) H Q := by
  obtain ⟨q1, q2, q3⟩ := and_bd h0 h1
  exact ⟨i, j, rfl, rfl, k _ rfl q1 q2 q3⟩
def BitsE (Q : VK) (x : V) (H : Hp) : Prop := ∃ i, x = .int i ∧ Q (.int (Builtin.Int.intBits i : Nat)) H
theorem w_bits {to : TE} (k : to σ H fun x H1 => BitsE Q x H1) : tBits to σ H Q := k
theorem bits_lt (i : Int) : i.natAbs < 2 ^ Builtin.Int.intBits i := by
  unfold Builtin.Int.intBits
  split
  · rename_i h
    have : i = 0 := by simpa using h
    subst this; decide
  · exact Nat.lt_log2_self
theorem w_bitsE (k : ∀ m : Nat, m = Builtin.Int.intBits i → i.natAbs < 2 ^ m → Q (.int m) H) : BitsE Q (.int i) H := ⟨i, rfl, k _ rfl (bits_lt i)⟩
theorem w_shrI (c : 0 ≤ j) (k : Q (.int (i / 2 ^ j.toNat)) H) : gShr (.int i) (.int j) H Q := ⟨i, j, rfl, rfl, c, k⟩
theorem w_andI (k : Q (.int (Builtin.bitAnd i j)) H) : gAnd (.int i) (.int j) H Q := ⟨i, j, rfl, rfl, k⟩
theorem w_ltI (k : Q (.bl (decide (i < j))) H) : gLt (.int i) (.int j) H Q := ⟨i, j, rfl, rfl, k⟩
theorem w_leI (k : Q (.bl (decide (i ≤ j))) H) : gLe (.int i) (.int j) H Q := ⟨i, j, rfl, rfl, k⟩
theorem w_gtI (k : Q (.bl (decide (j < i))) H) : gGt (.int i) (.int j) H Q := ⟨i, j, rfl, rfl, k⟩
theorem w_geI (k : Q (.bl (decide (j ≤ i))) H) : gGe (.int i) (.int j) H Q := ⟨i, j, rfl, rfl, k⟩
theorem dV_int : decide (V.int i = V.int j) = decide (i = j) := by
  by_cases h : i = j
  · subst h; simp
  · rw [decide_eq_false h, decide_eq_false (fun e => h (V.int.inj e))]
theorem dV_str {s t : Str} : decide (V.str s = V.str t) = decide (s = t) := by
  by_cases h : s = t
  · subst h; simp
  · rw [decide_eq_false h, decide_eq_false (fun e => h (V.str.inj e))]
theorem w_eqI (k : Q (.bl (decide (i = j))) H) : gEq K (.int i) (.int j) H Q := .inl ⟨rfl, by rw [dV_int]; exact k⟩
theorem w_neI (k : Q (.bl (!decide (i = j))) H) : gNe K (.int i) (.int j) H Q := .inl ⟨rfl, by rw [dV_int]; exact k⟩
theorem w_eqS {s t : Str} (k : Q (.bl (decide (s = t))) H) : gEq K (.str s) (.str t) H Q := .inl ⟨rfl, by rw [dV_str]; exact k⟩
theorem w_neS {s t : Str} (k : Q (.bl (!decide (s = t))) H) : gNe K (.str s) (.str t) H Q := .inl ⟨rfl, by rw [dV_str]; exact k⟩
theorem w_lenL {p : Addr} {xs : List V} (h : SqL K H p xs) (k : Q (.int (xs.length : Int)) H) : gLen K [.ref p] H Q := .inl ⟨p, xs, rfl, .inl h, k⟩
theorem w_lenT {p : Addr} {xs : List V} (h : SqT K H p xs) (k : Q (.int (xs.length : Int)) H) : gLen K [.ref p] H Q := .inl ⟨p, xs, rfl, .inr h, k⟩
theorem w_lenS {s : Str} (z : s.length ≤ sizeLine) (k : Q (.int (s.length : Int)) H) : gLen K [.str s] H Q := .inr ⟨s, rfl, z, k⟩
theorem w_intB (k1 : b = true → Q (.int 1) H) (k0 : b = false → Q (.int 0) H) : gIntC [.bl b] H Q := .inr ⟨b, rfl, by cases b; exact k0 rfl; exact k1 rfl⟩
theorem w_intD {c : Prop} [Decidable c] (k1 : c → Q (.int 1) H) (k0 : ¬ c → Q (.int 0) H) : gIntC [.bl (decide c)] H Q := w_intB (fun e => k1 (of_decide_eq_true e)) (fun e => k0 (of_decide_eq_false e))
theorem w_intDn {c : Prop} [Decidable c] (k1 : ¬ c → Q (.int 1) H) (k0 : c → Q (.int 0) H) : gIntC [.bl (!decide c)] H Q := w_intB (fun e => k1 (fun z => by rw [decide_eq_true z] at e; cases e)) (fun e => k0 (Decidable.byContradiction fun z => by rw [decide_eq_false z] at e; cases e))
theorem w_intI (k : Q (.int i) H) : gIntC [.int i] H Q := .inl ⟨i, rfl, k⟩
theorem w_max (k : Q (.int (max i j)) H) : gMax [.int i, .int j] H Q := ⟨i, j, rfl, by
  have e : (if j > i then j else i) = max i j := by split <;> omega
  rw [e]; exact k⟩
theorem w_min (k : Q (.int (min i j)) H) : gMin [.int i, .int j] H Q := ⟨i, j, rfl, by
  have e : (if j < i then j else i) = min i j := by split <;> omega
  rw [e]; exact k⟩
theorem w_ixL {p : Addr} {xs : List V} (h : SqL K H p xs) (a : atI xs i = some v) (k : Q v H) : rIx K (.ref p) (.int i) H Q := .inl ⟨p, xs, i, v, rfl, rfl, h, a, k⟩
theorem w_ixT {p : Addr} {xs : List V} (h : SqT K H p xs) (a : atI xs i = some v) (k : Q v H) : rIx K (.ref p) (.int i) H Q := .inr (.inl ⟨p, xs, i, v, rfl, rfl, h, a, k⟩)
theorem w_ixS {z : Str} {c : Nat} (h : z.length ≤ sizeLine) (a : atI z.cps.toList i = some c) (k : Q (.str ⟨#[c]⟩) H) : rIx K (.str z) (.int i) H Q := .inr (.inr ⟨z, i, c, rfl, rfl, h, a, k⟩)
/-! tests -/
theorem w_test (k : te σ H fun x H' => IsBl x fun k => QT k H') : tTest te σ H QT := k
theorem w_isbl {R : Bool → Prop} (k : R b) : IsBl (.bl b) R := ⟨b, rfl, k⟩
theorem w_B (k : te σ H fun x H' => IsBl x fun k => QT k H') : tB te σ H QT := k
theorem w_and (k : tt σ H fun c H1 => if c = true then tu σ H1 QT else QT false H1) : tAnd tt tu σ H QT := k
theorem w_or (k : tt σ H fun c H1 => if c = true then QT true H1 else tu σ H1 QT) : tOr tt tu σ H QT := k
theorem w_not (k : tt σ H fun c H1 => QT (!c) H1) : tNot tt σ H QT := k
theorem w_ife (k : tt σ H fun c H1 => if c = true then ta σ H1 Q else tb σ H1 Q) : tIf tt ta tb σ H Q := k
theorem w_andV (k : ta σ H fun x H1 => IsBl x fun c => if c = true then tb σ H1 Q else Q (.bl false) H1) : tAndV ta tb σ H Q := k
theorem w_orV (k : ta σ H fun x H1 => IsBl x fun c => if c = true then Q (.bl true) H1 else tb σ H1 Q) : tOrV ta tb σ H Q := k
theorem w_notV (k : ta σ H fun x H1 => IsBl x fun c => Q (.bl (!c)) H1) : tNotV ta σ H Q := k
theorem w_if {c A B : Prop} [Decidable c] (h1 : c → A) (h2 : ¬ c → B) : if decide c = true then A else B := by
  by_cases h : c
  · rw [decide_eq_true h]; exact h1 h
  · rw [decide_eq_false h]; exact h2 h
theorem w_ifn {c A B : Prop} [Decidable c] (h1 : ¬ c → A) (h2 : c → B) : if (!decide c) = true then A else B := by
  by_cases h : c
  · rw [decide_eq_true h]; exact h2 h
  · rw [decide_eq_false h]; exact h1 h
theorem w_ifnn {c A B : Prop} [Decidable c] (h1 : c → A) (h2 : ¬ c → B) : if (!!decide c) = true then A else B := by
  by_cases h : c
  · rw [decide_eq_true h]; exact h1 h
  · rw [decide_eq_false h]; exact h2 h
theorem w_ifY {c A B : Prop} [Decidable c] (h : c) (k : A) : if decide c = true then A else B := by rw [decide_eq_true h]; exact k
theorem w_ifZ {c A B : Prop} [Decidable c] (h : ¬ c) (k : B) : if decide c = true then A else B := by rw [decide_eq_false h]; exact k
theorem w_ifnY {c A B : Prop} [Decidable c] (h : c) (k : B) : if (!decide c) = true then A else B := by rw [decide_eq_true h]; exact k
theorem w_ifnZ {c A B : Prop} [Decidable c] (h : ¬ c) (k : A) : if (!decide c) = true then A else B := by rw [decide_eq_false h]; exact k
theorem w_intY {c : Prop} [Decidable c] (h : c) (k : Q (.int 1) H) : gIntC [.bl (decide c)] H Q := by rw [decide_eq_true h]; exact .inr ⟨true, rfl, k⟩
theorem w_intZ {c : Prop} [Decidable c] (h : ¬ c) (k : Q (.int 0) H) : gIntC [.bl (decide c)] H Q := by rw [decide_eq_false h]; exact .inr ⟨false, rfl, k⟩
theorem w_ifB {A B : Prop} (h1 : b = true → A) (h2 : b = false → B) : if b = true then A else B := by
  cases b
  · exact h2 rfl
  · exact h1 rfl
theorem w_ifT {A B : Prop} (h : A) : if true = true then A else B := h
theorem w_ifF {A B : Prop} (h : B) : if false = true then A else B := h
theorem w_ifNT {A B : Prop} (h : B) : if (!true) = true then A else B := h
theorem w_ifNF {A B : Prop} (h : A) : if (!false) = true then A else B := h
/-! statements -/
theorem w_seq {n c d : L2.St → Hp → Prop} {r : VK} (k : t1 (En (t2 (En n r c d)) r c d) σ H) : tSeq t1 t2 (En n r c d) σ H := k
theorem w_asg {n : Nat} (k : te σ H fun x H1 => NX D (σ.set n (some x)) H1) : tAsg te (gName n) D σ H := k
theorem w_asgG {g : TG} (k : te σ H fun x H1 => g x σ H1 (NX D)) : tAsg te g D σ H := k
def Par (n m : Nat) (D : Ends) (σ : L2.St) (vs : List V) (H : Hp) : Prop := ∃ v w, vs = [v, w] ∧ D.nx ((σ.set n (some v)).set m (some w)) H
theorem w_par {n m : Nat} {t : TA} (k : t σ H fun vs H1 => Par n m D σ vs H1) : tPar n m t D σ H := k
theorem w_parE {n m : Nat} (k : NX D ((σ.set n (some x)).set m (some y)) H) : Par n m D σ [x, y] H := ⟨x, y, rfl, k⟩
def Par3 (n m l : Nat) (D : Ends) (σ : L2.St) (vs : List V) (H : Hp) : Prop := ∃ u v w, vs = [u, v, w] ∧ D.nx (((σ.set n (some u)).set m (some v)).set l (some w)) H
theorem w_par3 {n m l : Nat} {t : TA} (k : t σ H fun vs H1 => Par3 n m l D σ vs H1) : tPar3 n m l t D σ H := k
theorem w_par3E {n m l : Nat} {z : V} (k : NX D (((σ.set n (some x)).set m (some y)).set l (some z)) H) : Par3 n m l D σ [x, y, z] H := ⟨x, y, z, rfl, k⟩
theorem w_aug {n : Nat} {ti : TIp} (h : σ[n]? = some (some x)) (k : te σ H fun y H1 => ti x y H1 fun z H2 => NX D (σ.set n (some z)) H2) : tAug n te ti D σ H := ⟨x, h, k⟩
theorem w_ret (k : te σ H fun v H1 => RT D v H1) : tRet te D σ H := k
theorem w_drop (k : te σ H fun _ H1 => NX D σ H1) : tDrop te D σ H := k
theorem w_ifs (k : tt σ H fun b H1 => if b = true then t1 D σ H1 else t2 D σ H1) : tIfS tt t1 t2 D σ H := k
theorem w_next (k : NX D σ H) : tNext D σ H := k
theorem w_nx {n c d : L2.St → Hp → Prop} {r : VK} (k : n σ H) : NX (En n r c d) σ H := k
theorem w_rt {n c d : L2.St → Hp → Prop} {r : VK} (k : r v H) : RT (En n r c d) v H := k
theorem w_start {n : L2.St → Hp → Prop} {r : VK} {t : TS} (k : t (En n r (fun _ _ => False) (fun _ _ => False)) σ H) : t { nx := n, rt := r } σ H := k
theorem w_gname {n : Nat} {R : L2.St → Hp → Prop} (k : R (σ.set n (some v)) H) : gName n v σ H R := k
theorem w_gnil {R : L2.St → Hp → Prop} (k : R σ H) : gNil [] σ H R := ⟨rfl, k⟩
theorem w_gcons {g : TG} {u : TGs} {r : List V} {R : L2.St → Hp → Prop} (k : g v σ H fun σ' H' => u r σ' H' R) : gCons g u (v :: r) σ H R := ⟨v, r, rfl, k⟩
theorem w_gtup {a : Addr} {xs : List V} {n : Nat} {u : TGs} {R : L2.St → Hp → Prop} (h : SqT K H a xs) (l : xs.length = n) (k : u xs σ H R) : gTup2 K n u (.ref a) σ H R := ⟨a, xs, rfl, h, l, k⟩
theorem w_gsub {to ti : TE} {t : TSet} {R : L2.St → Hp → Prop} (k : to σ H fun o H1 => ti σ H1 fun i H2 => t o i v H2 fun H3 => R σ H3) : gSub to ti t v σ H R := k
theorem w_setL {l : Addr} {xs : List V} {n : Nat} {R : Hp → Prop} (h : H l = some (.lst xs)) (e : ixN xs.length i = some n) (k : ∀ H', Kp l H H' → H' l = some (.lst (xs.set n v)) → R H') : rSetL (.ref l) (.int i) v H R :=
  ⟨l, xs, i, n, rfl, rfl, h, e, k _ kp_upd upd_same⟩
theorem w_bm {T : String} {r : V → List V → Hp → VK → Prop} {to : TE} {t : TA} (k : to σ H fun x H1 => BmE K T x H1 (t σ H1 fun xs H2 => r x xs H2 Q)) : tBM K T r to t σ H Q := k
theorem w_bmL {l : Addr} {xs : List V} {R : Prop} (h : H l = some (.lst xs)) (k : R) : BmE K "list" (.ref l) H R := ⟨.inl ⟨rfl, xs, Or.inl (Or.inl h)⟩, k⟩
theorem w_app {l : Addr} {xs : List V} (h : H l = some (.lst xs)) (z : xs.length < sizeLine) (k : ∀ H', Kp l H H' → H' l = some (.lst (xs ++ [v])) → Q .non H') : rAppend (.ref l) [v] H Q :=
  ⟨l, xs, v, rfl, rfl, h, z, k _ kp_upd upd_same⟩
theorem ty_list {l : Addr} {xs : List V} (h : H l = some (.lst xs)) : tyV K "list" (.ref l) H := .inl ⟨rfl, xs, sq_of h⟩
theorem w_slL {a : Addr} {xs : List V} {lo hi : Option Int} (h : SqL K H a xs) (k : ∀ p H', H p = none → Sm H H' → H' p = some (.lst (cutV xs lo hi)) → Q (.ref p) H') : gSl K (.ref a) lo hi H Q := .inl ⟨a, xs, rfl, h, fun p hp => k p _ hp (sm_new hp) upd_same⟩
theorem cut_whole {xs : List V} {lo hi : Option Int} (h : HT.sIx xs.length 0 lo = 0 ∧ HT.sIx xs.length xs.length hi = xs.length) : cutV xs lo hi = xs := by
  unfold cutV
  rw [h.1, h.2, List.drop_zero, Nat.sub_zero, List.take_length]
theorem w_slT {a : Addr} {xs : List V} {lo hi : Option Int} (h : H a = some (.tup xs)) (k : ∀ p H', Sm H H' → H' p = some (.tup (cutV xs lo hi)) → Q (.ref p) H') : gSl K (.ref a) lo hi H Q :=
  .inr ⟨a, xs, rfl, st_of h, fun w => k a H (Same.refl _) (by rw [cut_whole w]; exact h), fun _ p hp => k p _ (sm_new hp) upd_same⟩
theorem w_catT {a b : Addr} {xs ys : List V} (h1 : H a = some (.tup xs)) (h2 : H b = some (.tup ys)) (z : xs.length + ys.length ≤ sizeLine) (k : ∀ p H', Sm H H' → H' p = some (.tup (xs ++ ys)) → Q (.ref p) H') : gAdd K (.ref a) (.ref b) H Q :=
  .inr (.inr (.inr ⟨a, b, xs, ys, rfl, rfl, st_of h1, st_of h2, z, fun e => k b H (Same.refl _) (by rw [e]; exact h2), fun _ e => k a H (Same.refl _) (by rw [e, List.append_nil]; exact h1), fun _ _ p hp => k p _ (sm_new hp) upd_same⟩))
theorem w_sl {r : V → Option Int → Option Int → Hp → VK → Prop} {tl th : TO} (k : te σ H fun x H1 => tl σ H1 fun l H2 => th σ H2 fun u H3 => r x l u H3 Q) : tSl r te tl th σ H Q := k
theorem w_po0 {R : Option Int → Hp → Prop} (k : R none H) : tNoPart σ H R := k
theorem w_po1 {R : Option Int → Hp → Prop} (k : te σ H fun x H1 => PartE R x H1) : tPart te σ H R := k
theorem w_poE {R : Option Int → Hp → Prop} (k : R (some i) H) : PartE R (.int i) H := ⟨i, rfl, k⟩
theorem w_clear {l : Addr} {xs : List V} (h : H l = some (.lst xs)) (k : ∀ H', Kp l H H' → H' l = some (.lst []) → Q .non H') : tyV K "list" (.ref l) H ∧ rClear (.ref l) [] H Q :=
  ⟨ty_list h, l, xs, rfl, rfl, h, k _ kp_upd upd_same⟩
end
/-! a field read inside a comprehension: the context's K is named -/
theorem pe_fldK {X : Cx} {K : PySem.W.Frag} (hK : X.K = K) {e : Expr} {f : Str} {pos : Pos} {ta : TE} (he : PE X e ta) (hb : attributeBase e f X.env (eval e X.env) = eval e X.env) : PE X (.Attribute e f pos) (tFld K ta f) := by
  rw [← hK]
  exact pe_fld he hb
end Rs
namespace Rs
open PySem L2 PyProof.Rows PySem.NumText
/-! ### the walk's own words -/
local macro_rules | `(tactic| tm_at "rlk") => `(tactic| first | with_reducible assumption | ((refine' g_lk ?sg ?sh); (case sg => with_reducible assumption); (case sh => tm_at "rlk0")) | fail "no")
local macro_rules | `(tactic| tm_at "rlk0") => `(tactic| first | with_reducible assumption | (refine' Same.get ?sa ?sb; (case sa => with_reducible assumption); (case sb => tm_at "rlk0")) | (refine' Kp.get ?sa ?sc ?sb; (case sa => with_reducible assumption); (case sc => tm_at "rne"); (case sb => tm_at "rlk0")) | fail "no")
local macro_rules | `(tactic| tm_at "rne") => `(tactic| first | with_reducible assumption | (apply Ne.symm; assumption) | (refine' ne_new ?sa ?sb; (case sa => with_reducible assumption); (case sb => tm_at "rlk")) | (refine' ne_new2 ?sa ?sb; (case sa => with_reducible assumption); (case sb => tm_at "rlk")) | fail "no")
local macro_rules | `(tactic| tm_at "rsf") => `(tactic| first | with_reducible assumption | ((refine' g_sqf ?sg ?sh); (case sg => with_reducible assumption); (case sh => tm_at "rsf0")) | fail "no")
local macro_rules | `(tactic| tm_at "rsf0") => `(tactic| first | with_reducible assumption | ((refine' SqF.sm ?sa ?sb); (case sb => with_reducible assumption); (case sa => tm_at "rsf0")) | ((refine' SqF.kp ?sa ?sc ?sb); (case sb => with_reducible assumption); (case sc => tm_at "rlk"); (case sa => tm_at "rsf0")) | fail "no")
local macro_rules | `(tactic| tm_at "rsq") => `(tactic| first | with_reducible assumption | ((refine' SqF.sq ?sz); (case sz => tm_at "rsf")) | ((refine' sq_of ?sz); (case sz => tm_at "rlk")) | (refine' sm_sq ?sa ?sb; (case sa => with_reducible assumption); (case sb => tm_at "rsq")) | (refine' kp_sq ?sa ?sc ?sb; (case sa => with_reducible assumption); (case sc => tm_at "rne"); (case sb => tm_at "rsq")) | fail "no")
local macro_rules | `(tactic| tm_at "rst") => `(tactic| first | with_reducible assumption | ((refine' st_of ?sz); (case sz => tm_at "rlk")) | fail "no")
local macro_rules | `(tactic| tm_at "rat") => `(tactic| first | with_reducible assumption | exact atI_nat (j := 0) rfl | exact atI_nat (j := 1) rfl | exact atI_nat (j := 2) rfl | exact atI_nat (j := 3) rfl | exact atI_nat (j := 4) rfl | exact atI_nat (j := 5) rfl | fail "no")
local macro_rules | `(tactic| tm_at "rsz") => `(tactic| first | with_reducible assumption | exact sz_of (Nat.le_of_ble_eq_true rfl) | (apply sz_of; omega) | ((refine sz_of (Nat.le_trans (Nat.add_le_add_left (cutV_length _ _ _) _) ?_)); omega) | ((refine sz_of (Nat.le_trans (Nat.add_le_add_left (cutV_length _ _ _) _) ?_)); (simp only [List.length_cons, List.length_nil, List.length_append]); omega) | (apply sz_lt; omega) | ((apply sz_of); (simp only [List.length_cons, List.length_nil, List.length_append]); omega) | ((apply sz_lt); (simp only [List.length_cons, List.length_nil, List.length_append]); omega) | ((apply sz_of); (simp only [List.length_cons, List.length_nil, List.length_append, List.length_take, List.length_drop, List.length_map, List.length_replicate, List.length_set]); omega) | ((apply sz_lt); (simp only [List.length_cons, List.length_nil, List.length_append, List.length_take, List.length_drop, List.length_map, List.length_replicate, List.length_set]); omega) | decide | fail "no")
local macro_rules | `(tactic| tm_at "rc") => `(tactic| first | with_reducible assumption | exact .inl (.inl (by decide)) | exact .inl (.inr (by decide)) | exact .inl (.inl ⟨by omega, by omega⟩) | exact .inl (.inr ⟨by omega, by omega⟩) | fail "no")
local macro_rules | `(tactic| tm_at "rfr") => `(tactic| first | with_reducible assumption | ((refine' g_fr ?sg ?sh); (case sg => with_reducible assumption); (case sh => tm_at "rfr0")) | fail "no")
local macro_rules | `(tactic| tm_at "rfr0") => `(tactic| first | with_reducible assumption | ((refine' Same.free ?sa ?sb); (case sa => with_reducible assumption); (case sb => tm_at "rfr0")) | ((refine' kp_free ?sa ?sc ?sb); (case sa => with_reducible assumption); (case sb => tm_at "rfr0"); (case sc => tm_at "rne")) | fail "no")
local macro_rules | `(tactic| tm_at "rsm") => `(tactic| first | with_reducible assumption | exact Same.refl _ | ((refine' Same.trans ?sa ?sb); (case sb => with_reducible assumption); (case sa => tm_at "rsm")) | ((refine' sm_mut ?sa ?sc ?sb); (case sb => with_reducible assumption); (case sc => tm_at "rfr"); (case sa => tm_at "rsm")) | fail "no")
local macro_rules | `(tactic| tm_at "rkp") => `(tactic| first | with_reducible assumption | exact Kp.refl _ | ((refine' Kp.trans ?sa ?sb); (case sb => first | with_reducible assumption | exact Kp.of (by with_reducible assumption)); (case sa => tm_at "rkp")) | ((refine' kp_mut ?sa ?sc ?sb); (case sb => with_reducible assumption); (case sc => tm_at "rfr"); (case sa => tm_at "rkp")) | fail "no")
local macro_rules | `(tactic| tm_at "rs") => `(tactic| first
  | ((with_reducible refine' w_var ?h ?k); (case h => rfl))
  | with_reducible refine w_seq ?_
  | with_reducible refine w_nx ?_
  | with_reducible refine w_rt ?_
  | with_reducible refine w_c ?_
  | with_reducible refine w_op ?_
  | with_reducible refine w_un ?_
  | with_reducible refine w_rU ?_
  | with_reducible refine w_cb ?_
  | with_reducible refine w_cons ?_
  | with_reducible refine w_nil ?_
  | with_reducible refine w_asg ?_
  | with_reducible refine w_ret ?_
  | with_reducible refine w_ifs ?_
  | with_reducible refine w_call ?_
  | with_reducible refine w_callK ?_
  | with_reducible refine w_test ?_
  | with_reducible refine w_isbl ?_
  | with_reducible refine w_addI ?_
  | with_reducible refine w_I0 ?_
  | ((with_reducible refine w_andF ?h ?i (fun _ _ _ _ _ => ?_)); (case h => omega); (case i => omega))
  | with_reducible refine w_andI ?_
  | with_reducible refine w_ltI ?_
  | with_reducible refine w_leI ?_
  | with_reducible refine w_gtI ?_
  | with_reducible refine w_geI ?_
  | with_reducible refine w_eqI ?_
  | with_reducible refine w_neI ?_
  | with_reducible refine w_isN0 ?_
  | with_reducible refine w_notN0 ?_
  | ((with_reducible refine w_isNx ?h ?_); (case h => (intro e; cases e)))
  | ((with_reducible refine w_notNx ?h ?_); (case h => (intro e; cases e)))
  | with_reducible refine w_isBT ?_
  | with_reducible refine w_notBT ?_
  | with_reducible refine w_eqB ?_
  | with_reducible refine w_neB ?_
  | ((with_reducible refine w_orF ?h ?i (fun _ _ _ _ => ?_)); (case h => omega); (case i => omega))
  | with_reducible refine w_eqS ?_
  | with_reducible refine w_neS ?_
  | with_reducible refine w_max ?_
  | with_reducible refine w_min ?_
  | with_reducible refine w_intI ?_
  | with_reducible refine w_lst ?_
  | with_reducible refine w_tup ?_
  | with_reducible refine w_ifT ?_
  | with_reducible refine w_ifNT ?_
  | with_reducible refine w_ifNF ?_
  | with_reducible refine w_ifF ?_
  | with_reducible refine w_or ?_
  | with_reducible refine w_and ?_
  | with_reducible refine w_not ?_
  | with_reducible refine w_ife ?_
  | with_reducible refine w_andV ?_
  | with_reducible refine w_orV ?_
  | with_reducible refine w_notV ?_
  | with_reducible refine w_B ?_
  | with_reducible refine w_next ?_
  | with_reducible refine w_drop ?_
  | with_reducible refine w_par ?_
  | with_reducible refine w_parE ?_
  | with_reducible refine w_par3 ?_
  | with_reducible refine w_par3E ?_
  | with_reducible refine w_asgG ?_
  | with_reducible refine w_gsub ?_
  | with_reducible refine w_bm ?_
  | with_reducible refine w_sl ?_
  | with_reducible refine w_po0 ?_
  | with_reducible refine w_po1 ?_
  | with_reducible refine w_poE ?_
  | with_reducible refine w_for ?_
  | with_reducible refine w_iR1 ?_
  | with_reducible refine w_iR2 ?_
  | with_reducible refine w_iL ?_
  | with_reducible refine w_iT ?_
  | with_reducible refine w_sp ?_
  | ((with_reducible refine' w_aug ?h ?k); (case h => rfl))
  | with_reducible refine w_wt ?_
  | with_reducible refine w_shr1 ?_
  | with_reducible refine w_iaddI ?_
  | with_reducible refine w_xorI ?_
  | with_reducible refine w_isiIb ?_
  | with_reducible refine w_isiIi ?_
  | with_reducible refine w_isiBb ?_
  | with_reducible refine w_isiSs ?_
  | with_reducible refine w_gname ?_
  | with_reducible refine w_gnil ?_
  | with_reducible refine w_gcons ?_
  | ((with_reducible refine' w_gtup ?h ?l ?k); (case h => tm_at "rst"); (case l => rfl))
  | ((with_reducible refine w_imulI ?h ?_); (case h => tm_at "rc"))
  | ((with_reducible refine w_shl1F ?h ?i (fun _ _ _ _ _ _ => ?_)); (case h => omega); (case i => omega))
  | with_reducible refine w_bits ?_
  | with_reducible refine w_bitsE (fun _ _ _ => ?_)
  | ((with_reducible refine w_shlI ?h ?_); (case h => first | assumption | exact ⟨by decide, by decide⟩))
  | ((with_reducible refine w_modI ?h ?_); (case h => decide))
  | ((with_reducible refine w_modF ?h (fun _ _ _ _ _ => ?_)); (case h => omega))
  | ((with_reducible refine w_divI ?h ?_); (case h => (first | assumption | exact ⟨by decide, by decide +kernel⟩ | exact ⟨by assumption, by assumption⟩)))
  | ((with_reducible refine w_mulI ?h ?_); (case h => tm_at "rc"))
  | ((with_reducible refine w_powI ?h ?_); (case h => exact ⟨by decide, by decide, by decide +kernel⟩))
  | ((with_reducible refine w_shrI ?h ?_); (case h => (first | decide | omega)))
  | ((with_reducible refine w_intY ?h ?_); (case h => decide +kernel))
  | ((with_reducible refine w_intZ ?h ?_); (case h => decide +kernel))
  | with_reducible refine w_intD (fun _ => ?_) (fun _ => ?_)
  | with_reducible refine w_intDn (fun _ => ?_) (fun _ => ?_)
  | with_reducible refine w_intB (fun _ => ?_) (fun _ => ?_)
  | ((with_reducible refine' w_lenL ?h ?k); (case h => tm_at "rsq"))
  | ((with_reducible refine' w_lenT ?h ?k); (case h => tm_at "rst"))
  | ((with_reducible refine' w_ixL ?h ?a ?k); (case h => tm_at "rsq"); (case a => tm_at "rat"))
  | ((with_reducible refine' w_ixT ?h ?a ?k); (case h => tm_at "rst"); (case a => tm_at "rat"))
  | ((with_reducible refine w_newL ?h (fun _ _ _ _ _ => ?_)); (case h => exact sz_of (Nat.le_of_ble_eq_true rfl)))
  | ((with_reducible refine w_newT ?h (fun _ _ _ _ _ => ?_)); (case h => exact sz_of (Nat.le_of_ble_eq_true rfl)))
  | ((with_reducible refine' w_ix2I ?h ?a ?b (fun _ _ => ?k)); (case h => tm_at "rsq"); (case a => omega); (case b => omega))
  | ((with_reducible refine' w_ix3I ?h ?a ?b (fun _ _ => ?k)); (case h => tm_at "rsq"); (case a => omega); (case b => omega))
  | ((with_reducible refine' w_ix4I ?h ?a ?b (fun _ _ => ?k)); (case h => tm_at "rsq"); (case a => omega); (case b => omega))
  | ((with_reducible refine' w_ix5I ?h ?a ?b (fun _ _ => ?k)); (case h => tm_at "rsq"); (case a => omega); (case b => omega))
  | ((with_reducible refine' w_ix6I ?h ?a ?b (fun _ _ => ?k)); (case h => tm_at "rsq"); (case a => omega); (case b => omega))
  | ((with_reducible refine' w_ix7I ?h ?a ?b (fun _ _ => ?k)); (case h => tm_at "rsq"); (case a => omega); (case b => omega))
  | ((with_reducible refine' w_ix8I ?h ?a ?b (fun _ _ => ?k)); (case h => tm_at "rsq"); (case a => omega); (case b => omega))
  | ((with_reducible refine' w_sum ?h ?k); (case h => tm_at "rsq"))
  | ((with_reducible refine' w_all ?h ?k); (case h => tm_at "rsq"))
  | with_reducible refine w_lc ?_
  | with_reducible refine w_yes ?_
  | ((with_reducible refine w_lcGo ?h ?_); (case h => rfl))
  | ((with_reducible refine' w_lcEnd ?h ?z (fun _ _ _ => ?k)); (case h => tm_at "rlk"); (case z => tm_at "rsz"))
  | ((with_reducible refine w_ifY ?h ?_); (case h => decide +kernel))
  | ((with_reducible refine w_ifZ ?h ?_); (case h => decide +kernel))
  | ((with_reducible refine w_ifnY ?h ?_); (case h => decide +kernel))
  | ((with_reducible refine w_ifnZ ?h ?_); (case h => decide +kernel))
  | with_reducible refine w_if (fun _ => ?_) (fun _ => ?_)
  | with_reducible refine w_ifn (fun _ => ?_) (fun _ => ?_)
  | with_reducible refine w_ifnn (fun _ => ?_) (fun _ => ?_)
  | ((with_reducible refine' w_setL ?h ?e (fun _ _ _ => ?k)); (case h => tm_at "rlk"); (case e => rfl))
  | ((with_reducible refine' w_bmL ?h ?k); (case h => tm_at "rlk"))
  | ((with_reducible refine' w_app ?h ?z (fun _ _ _ => ?k)); (case h => tm_at "rlk"); (case z => tm_at "rsz"))
  | ((with_reducible refine' w_slL ?h (fun _ _ _ _ _ => ?k)); (case h => tm_at "rsq"))
  | ((with_reducible refine' w_slT ?h (fun _ _ _ _ => ?k)); (case h => tm_at "rlk"))
  | ((with_reducible refine' w_addL ?h ?i ?z (fun _ _ _ _ _ => ?k)); (case h => tm_at "rlk"); (case i => tm_at "rlk"); (case z => tm_at "rsz"))
  | ((with_reducible refine' w_catT ?h ?i ?z (fun _ _ _ _ => ?k)); (case h => tm_at "rlk"); (case i => tm_at "rlk"); (case z => tm_at "rsz"))
  | ((with_reducible refine' w_inS2 ?h ?k); (case h => tm_at "rst"))
  | ((with_reducible refine' w_niS2 ?h ?k); (case h => tm_at "rst"))
  | ((with_reducible refine' w_isiTup ?h ?k); (case h => tm_at "rlk"))
  | ((with_reducible refine' w_clear ?h (fun _ _ _ => ?k)); (case h => tm_at "rlk"))
  | ((with_reducible refine' w_iLe ?h ?k); (case h => tm_at "rsq"))
  | ((with_reducible refine' w_iTe ?h ?k); (case h => tm_at "rst"))
  | ((with_reducible refine w_iR1e ?h ?i ?_); (case h => omega); (case i => omega))
  | ((with_reducible refine w_iR2e ?h ?_); (case h => (refine ⟨?_, ?_, ?_, ?_⟩ <;> omega)))
  | fail "no")
def topS (i : Nat) : Stmt := PySem.Challenge.pw_runsums_k88_arguments_by_names.main.body.getD i (.Pass ⟨0, 0, 0, 0⟩)
abbrev s_f_law_box : Stmt := topS 55
theorem sc_f_law_box : FnScope ["script", "at", "cell", "seed"] ["script", "at"] (defScope s_f_law_box) := ⟨rfl, rfl, rfl, by decide +kernel, rfl, by decide +kernel, by decide +kernel⟩
abbrev s_f_law_take : Stmt := topS 56
theorem sc_f_law_take : FnScope ["box", "wide", "digit", "first"] ["box", "wide"] (defScope s_f_law_take) := ⟨rfl, rfl, rfl, by decide +kernel, rfl, by decide +kernel, by decide +kernel⟩
abbrev s_f_Saying__init : Stmt := (clsB (topS 42)).getD 0 (.Pass ⟨0, 0, 0, 0⟩)
theorem sc_f_Saying__init : FnScope ["self", "word", "left", "right"] ["self", "word", "left", "right"] (defScope s_f_Saying__init) := ⟨rfl, rfl, rfl, by decide +kernel, rfl, by decide +kernel, by decide +kernel⟩
abbrev s_f_need_same : Stmt := topS 45
theorem sc_f_need_same : FnScope ["sayings", "at", "saying"] ["sayings"] (defScope s_f_need_same) := ⟨rfl, rfl, rfl, by decide +kernel, rfl, by decide +kernel, by decide +kernel⟩
abbrev s_f_either : Stmt := topS 47
theorem sc_f_either : FnScope ["one", "other", "along", "across"] ["one", "other"] (defScope s_f_either) := ⟨rfl, rfl, rfl, by decide +kernel, rfl, by decide +kernel, by decide +kernel⟩
abbrev s_f_sum_of : Stmt := topS 25
theorem sc_f_sum_of : FnScope ["terms", "found", "k", "term"] ["terms"] (defScope s_f_sum_of) := ⟨rfl, rfl, rfl, by decide +kernel, rfl, by decide +kernel, by decide +kernel⟩
abbrev s_f_made_one : Stmt := topS 46
theorem sc_f_made_one : FnScope ["sayings", "squares", "products", "saying", "left", "right"] ["sayings"] (defScope s_f_made_one) := ⟨rfl, rfl, rfl, by decide +kernel, rfl, by decide +kernel, by decide +kernel⟩
abbrev s_f_figure : Stmt := topS 1
theorem sc_f_figure : FnScope ["number", "base", "k", "turn"] ["number", "base", "k"] (defScope s_f_figure) := ⟨rfl, rfl, rfl, by decide +kernel, rfl, by decide +kernel, by decide +kernel⟩
abbrev s_f_of_figures : Stmt := topS 3
theorem sc_f_of_figures : FnScope ["some", "base", "found", "one"] ["some", "base"] (defScope s_f_of_figures) := ⟨rfl, rfl, rfl, by decide +kernel, rfl, by decide +kernel, by decide +kernel⟩
abbrev s_f_ones : Stmt := topS 4
theorem sc_f_ones : FnScope ["base", "many"] ["base", "many"] (defScope s_f_ones) := ⟨rfl, rfl, rfl, by decide +kernel, rfl, by decide +kernel, by decide +kernel⟩
abbrev s_f_figures : Stmt := topS 2
theorem sc_f_figures : FnScope ["number", "base", "many", "found", "turn"] ["number", "base", "many"] (defScope s_f_figures) := ⟨rfl, rfl, rfl, by decide +kernel, rfl, by decide +kernel, by decide +kernel⟩
abbrev s_f_law_figures_right : Stmt := topS 57
theorem sc_f_law_figures_right : FnScope ["whole", "wide", "count", "due", "told"] ["whole", "wide", "count"] (defScope s_f_law_figures_right) := ⟨rfl, rfl, rfl, by decide +kernel, rfl, by decide +kernel, by decide +kernel⟩
abbrev s_f_bits_of : Stmt := topS 12
theorem sc_f_bits_of : FnScope ["number", "found"] ["number"] (defScope s_f_bits_of) := ⟨rfl, rfl, rfl, by decide +kernel, rfl, by decide +kernel, by decide +kernel⟩
abbrev s_f_fits : Stmt := topS 14
theorem sc_f_fits : FnScope ["one", "other"] ["one", "other"] (defScope s_f_fits) := ⟨rfl, rfl, rfl, by decide +kernel, rfl, by decide +kernel, by decide +kernel⟩
abbrev s_f_stands_out : Stmt := topS 15
theorem sc_f_stands_out : FnScope ["one", "other"] ["one", "other"] (defScope s_f_stands_out) := ⟨rfl, rfl, rfl, by decide +kernel, rfl, by decide +kernel, by decide +kernel⟩
abbrev s_f_of_bits : Stmt := topS 13
theorem sc_f_of_bits : FnScope ["text", "at", "sign"] ["text"] (defScope s_f_of_bits) := ⟨rfl, rfl, rfl, by decide +kernel, rfl, by decide +kernel, by decide +kernel⟩
abbrev s_f_how_many : Stmt := topS 16
theorem sc_f_how_many : FnScope ["number", "found"] ["number"] (defScope s_f_how_many) := ⟨rfl, rfl, rfl, by decide +kernel, rfl, by decide +kernel, by decide +kernel⟩
abbrev s_f_law_bits_right : Stmt := topS 58
theorem sc_f_law_bits_right : FnScope ["first", "second", "signs"] ["first", "second"] (defScope s_f_law_bits_right) := ⟨rfl, rfl, rfl, by decide +kernel, rfl, by decide +kernel, by decide +kernel⟩
abbrev s_f_choose : Stmt := topS 18
theorem sc_f_choose : FnScope ["n", "k", "found", "turn"] ["n", "k"] (defScope s_f_choose) := ⟨rfl, rfl, rfl, by decide +kernel, rfl, by decide +kernel, by decide +kernel⟩
abbrev s_f_halvings : Stmt := topS 19
theorem sc_f_halvings : FnScope ["number", "found"] ["number"] (defScope s_f_halvings) := ⟨rfl, rfl, rfl, by decide +kernel, rfl, by decide +kernel, by decide +kernel⟩
abbrev s_f_carries : Stmt := topS 20
theorem sc_f_carries : FnScope ["one", "other", "found", "kept"] ["one", "other"] (defScope s_f_carries) := ⟨rfl, rfl, rfl, by decide +kernel, rfl, by decide +kernel, by decide +kernel⟩
abbrev s_f_is_odd : Stmt := topS 21
theorem sc_f_is_odd : FnScope ["n", "k"] ["n", "k"] (defScope s_f_is_odd) := ⟨rfl, rfl, rfl, by decide +kernel, rfl, by decide +kernel, by decide +kernel⟩
abbrev s_f_risen : Stmt := topS 49
theorem sc_f_risen : FnScope ["base", "times", "found"] ["base", "times"] (defScope s_f_risen) := ⟨rfl, rfl, rfl, by decide +kernel, rfl, by decide +kernel, by decide +kernel⟩
abbrev s_f_figure_of_power : Stmt := topS 50
theorem sc_f_figure_of_power : FnScope ["n", "k", "wide", "whole"] ["n", "k"] (defScope s_f_figure_of_power) := ⟨rfl, rfl, rfl, by decide +kernel, rfl, by decide +kernel, by decide +kernel⟩
abbrev s_f_law_choosing_right : Stmt := topS 59
theorem sc_f_law_choosing_right : FnScope ["first", "second", "ways"] ["first", "second"] (defScope s_f_law_choosing_right) := ⟨rfl, rfl, rfl, by decide +kernel, rfl, by decide +kernel, by decide +kernel⟩
abbrev s_f_led : Stmt := topS 52
theorem sc_f_led : FnScope ["term", "names"] ["term", "names"] (defScope s_f_led) := ⟨rfl, rfl, rfl, by decide +kernel, rfl, by decide +kernel, by decide +kernel⟩
abbrev s_f_renamed : Stmt := topS 53
theorem sc_f_renamed : FnScope ["saying", "names"] ["saying", "names"] (defScope s_f_renamed) := ⟨rfl, rfl, rfl, by decide +kernel, rfl, by decide +kernel, by decide +kernel⟩
abbrev s_f_let_by : Stmt := topS 26
theorem sc_f_let_by : FnScope ["number"] ["number"] (defScope s_f_let_by) := ⟨rfl, rfl, rfl, by decide +kernel, rfl, by decide +kernel, by decide +kernel⟩
abbrev s_f_power_of : Stmt := topS 29
theorem sc_f_power_of : FnScope ["base", "n", "found"] ["base", "n"] (defScope s_f_power_of) := ⟨rfl, rfl, rfl, by decide +kernel, rfl, by decide +kernel, by decide +kernel⟩
abbrev s_f_product : Stmt := topS 28
theorem sc_f_product : FnScope ["one", "other"] ["one", "other"] (defScope s_f_product) := ⟨rfl, rfl, rfl, by decide +kernel, rfl, by decide +kernel, by decide +kernel⟩
abbrev s_f_come_to : Stmt := topS 30
theorem sc_f_come_to : FnScope ["word", "one", "other"] ["word", "one", "other"] (defScope s_f_come_to) := ⟨rfl, rfl, rfl, by decide +kernel, rfl, by decide +kernel, by decide +kernel⟩
abbrev s_f_number_of : Stmt := topS 27
theorem sc_f_number_of : FnScope ["name", "answer", "e"] ["name", "answer"] (defScope s_f_number_of) := ⟨rfl, rfl, rfl, by decide +kernel, rfl, by decide +kernel, by decide +kernel⟩
abbrev s_f_worth : Stmt := topS 31
theorem sc_f_worth : FnScope ["term", "answer", "numbers", "left", "part", "known", "other"] ["term", "answer"] (defScope s_f_worth) := ⟨rfl, rfl, rfl, by decide +kernel, rfl, by decide +kernel, by decide +kernel⟩
abbrev s_f_holds : Stmt := topS 33
theorem sc_f_holds : FnScope ["saying", "answer", "left", "right"] ["saying", "answer"] (defScope s_f_holds) := ⟨rfl, rfl, rfl, by decide +kernel, rfl, by decide +kernel, by decide +kernel⟩
abbrev s_f_off : Stmt := topS 35
theorem sc_f_off : FnScope ["saying", "answer", "left", "right", "gap"] ["saying", "answer"] (defScope s_f_off) := ⟨rfl, rfl, rfl, by decide +kernel, rfl, by decide +kernel, by decide +kernel⟩
abbrev s_f_first_wrong : Stmt := topS 34
theorem sc_f_first_wrong : FnScope ["sayings", "answer", "at", "saying"] ["sayings", "answer"] (defScope s_f_first_wrong) := ⟨rfl, rfl, rfl, by decide +kernel, rfl, by decide +kernel, by decide +kernel⟩
abbrev s_f_far_off : Stmt := topS 36
theorem sc_f_far_off : FnScope ["sayings", "answer", "saying"] ["sayings", "answer"] (defScope s_f_far_off) := ⟨rfl, rfl, rfl, by decide +kernel, rfl, by decide +kernel, by decide +kernel⟩
abbrev s_f_Saying__eq : Stmt := (clsB (topS 42)).getD 1 (.Pass ⟨0, 0, 0, 0⟩)
theorem sc_f_Saying__eq : FnScope ["self", "other"] ["self", "other"] (defScope s_f_Saying__eq) := ⟨rfl, rfl, rfl, by decide +kernel, rfl, by decide +kernel, by decide +kernel⟩
abbrev s_f_law_looking_right : Stmt := topS 60
theorem sc_f_law_looking_right : FnScope ["first", "second", "word", "said", "pair", "rest", "due", "called"] ["first", "second", "word"] (defScope s_f_law_looking_right) := ⟨rfl, rfl, rfl, by decide +kernel, rfl, by decide +kernel, by decide +kernel⟩
abbrev s_f_law : Stmt := topS 61
theorem sc_f_law : FnScope ["script", "at", "box", "whole", "wide", "count", "first", "second", "word", "said", "called"] ["script"] (defScope s_f_law) := ⟨rfl, rfl, rfl, by decide +kernel, rfl, by decide +kernel, by decide +kernel⟩
def gg_f_figure_k_base_number {α : Type} : List α → List α → List α
  | [], [b0, b1, b2] => [b2, b1, b0]
  | _, _ => []
def gk_f_figure_k_base_number : List V → List V → List V := gg_f_figure_k_base_number
theorem rel_gg_f_figure_k_base_number {vs : List V} {us : List Value} {zs : List V} {ws : List Value} (r1 : Vals vs us) (r2 : Vals zs ws) : Vals (gg_f_figure_k_base_number vs zs) (gg_f_figure_k_base_number us ws) := by
  rcases r1 with _ | ⟨p0, _⟩ <;> rcases r2 with _ | ⟨q0, _ | ⟨q1, _ | ⟨q2, _ | ⟨q3, _⟩⟩⟩⟩ <;> (first | exact Paired.nil | (repeat' (first | exact Paired.nil | assumption | refine Paired.cons ?_ ?_)))
theorem cgk_f_figure_k_base_number {b0 b1 b2 : V} {sp : Sp} {H : Hp} {Q : VK} {E : XK} (k : sp [b2, b1, b0] H Q E) : sp (gk_f_figure_k_base_number [] [b0, b1, b2]) H Q E := k
local macro_rules | `(tactic| tm_at "rs") => `(tactic| with_reducible refine cgk_f_figure_k_base_number ?_)
theorem kb_f_figure_k_base_number {K : PySem.W.Frag} {f : Addr} {fd : FuncData} (F : Fun K "figure" "figure" s_f_figure f fd) : KBinds K fd ["number", "base", "k"] ["k", "base", "number"] gg_f_figure_k_base_number gk_f_figure_k_base_number := by
  obtain ⟨oc, od, kV, doc, pm, an, cdv, ct, osl, rfl, lk, hcd⟩ := F.ex
  exact ⟨fun s us ws _ hl => match us, ws, hl with | [], [b0, b1, b2], _ => .of_eq rfl, fun r1 r2 => rel_gg_f_figure_k_base_number r1 r2⟩
def gg_f_figure_base_k_number {α : Type} : List α → List α → List α
  | [], [b0, b1, b2] => [b2, b0, b1]
  | _, _ => []
def gk_f_figure_base_k_number : List V → List V → List V := gg_f_figure_base_k_number
theorem rel_gg_f_figure_base_k_number {vs : List V} {us : List Value} {zs : List V} {ws : List Value} (r1 : Vals vs us) (r2 : Vals zs ws) : Vals (gg_f_figure_base_k_number vs zs) (gg_f_figure_base_k_number us ws) := by
  rcases r1 with _ | ⟨p0, _⟩ <;> rcases r2 with _ | ⟨q0, _ | ⟨q1, _ | ⟨q2, _ | ⟨q3, _⟩⟩⟩⟩ <;> (first | exact Paired.nil | (repeat' (first | exact Paired.nil | assumption | refine Paired.cons ?_ ?_)))
theorem cgk_f_figure_base_k_number {b0 b1 b2 : V} {sp : Sp} {H : Hp} {Q : VK} {E : XK} (k : sp [b2, b0, b1] H Q E) : sp (gk_f_figure_base_k_number [] [b0, b1, b2]) H Q E := k
local macro_rules | `(tactic| tm_at "rs") => `(tactic| with_reducible refine cgk_f_figure_base_k_number ?_)
theorem kb_f_figure_base_k_number {K : PySem.W.Frag} {f : Addr} {fd : FuncData} (F : Fun K "figure" "figure" s_f_figure f fd) : KBinds K fd ["number", "base", "k"] ["base", "k", "number"] gg_f_figure_base_k_number gk_f_figure_base_k_number := by
  obtain ⟨oc, od, kV, doc, pm, an, cdv, ct, osl, rfl, lk, hcd⟩ := F.ex
  exact ⟨fun s us ws _ hl => match us, ws, hl with | [], [b0, b1, b2], _ => .of_eq rfl, fun r1 r2 => rel_gg_f_figure_base_k_number r1 r2⟩
def gg_f_of_figures_base_some {α : Type} : List α → List α → List α
  | [], [b0, b1] => [b1, b0]
  | _, _ => []
def gk_f_of_figures_base_some : List V → List V → List V := gg_f_of_figures_base_some
theorem rel_gg_f_of_figures_base_some {vs : List V} {us : List Value} {zs : List V} {ws : List Value} (r1 : Vals vs us) (r2 : Vals zs ws) : Vals (gg_f_of_figures_base_some vs zs) (gg_f_of_figures_base_some us ws) := by
  rcases r1 with _ | ⟨p0, _⟩ <;> rcases r2 with _ | ⟨q0, _ | ⟨q1, _ | ⟨q2, _⟩⟩⟩ <;> (first | exact Paired.nil | (repeat' (first | exact Paired.nil | assumption | refine Paired.cons ?_ ?_)))
theorem cgk_f_of_figures_base_some {b0 b1 : V} {sp : Sp} {H : Hp} {Q : VK} {E : XK} (k : sp [b1, b0] H Q E) : sp (gk_f_of_figures_base_some [] [b0, b1]) H Q E := k
local macro_rules | `(tactic| tm_at "rs") => `(tactic| with_reducible refine cgk_f_of_figures_base_some ?_)
theorem kb_f_of_figures_base_some {K : PySem.W.Frag} {f : Addr} {fd : FuncData} (F : Fun K "of_figures" "of_figures" s_f_of_figures f fd) : KBinds K fd ["some", "base"] ["base", "some"] gg_f_of_figures_base_some gk_f_of_figures_base_some := by
  obtain ⟨oc, od, kV, doc, pm, an, cdv, ct, osl, rfl, lk, hcd⟩ := F.ex
  exact ⟨fun s us ws _ hl => match us, ws, hl with | [], [b0, b1], _ => .of_eq rfl, fun r1 r2 => rel_gg_f_of_figures_base_some r1 r2⟩
def gg_f_ones_many_base {α : Type} : List α → List α → List α
  | [], [b0, b1] => [b1, b0]
  | _, _ => []
def gk_f_ones_many_base : List V → List V → List V := gg_f_ones_many_base
theorem rel_gg_f_ones_many_base {vs : List V} {us : List Value} {zs : List V} {ws : List Value} (r1 : Vals vs us) (r2 : Vals zs ws) : Vals (gg_f_ones_many_base vs zs) (gg_f_ones_many_base us ws) := by
  rcases r1 with _ | ⟨p0, _⟩ <;> rcases r2 with _ | ⟨q0, _ | ⟨q1, _ | ⟨q2, _⟩⟩⟩ <;> (first | exact Paired.nil | (repeat' (first | exact Paired.nil | assumption | refine Paired.cons ?_ ?_)))
theorem cgk_f_ones_many_base {b0 b1 : V} {sp : Sp} {H : Hp} {Q : VK} {E : XK} (k : sp [b1, b0] H Q E) : sp (gk_f_ones_many_base [] [b0, b1]) H Q E := k
local macro_rules | `(tactic| tm_at "rs") => `(tactic| with_reducible refine cgk_f_ones_many_base ?_)
theorem kb_f_ones_many_base {K : PySem.W.Frag} {f : Addr} {fd : FuncData} (F : Fun K "ones" "ones" s_f_ones f fd) : KBinds K fd ["base", "many"] ["many", "base"] gg_f_ones_many_base gk_f_ones_many_base := by
  obtain ⟨oc, od, kV, doc, pm, an, cdv, ct, osl, rfl, lk, hcd⟩ := F.ex
  exact ⟨fun s us ws _ hl => match us, ws, hl with | [], [b0, b1], _ => .of_eq rfl, fun r1 r2 => rel_gg_f_ones_many_base r1 r2⟩
def gg_f_figures_many_base_number {α : Type} : List α → List α → List α
  | [], [b0, b1, b2] => [b2, b1, b0]
  | _, _ => []
def gk_f_figures_many_base_number : List V → List V → List V := gg_f_figures_many_base_number
theorem rel_gg_f_figures_many_base_number {vs : List V} {us : List Value} {zs : List V} {ws : List Value} (r1 : Vals vs us) (r2 : Vals zs ws) : Vals (gg_f_figures_many_base_number vs zs) (gg_f_figures_many_base_number us ws) := by
  rcases r1 with _ | ⟨p0, _⟩ <;> rcases r2 with _ | ⟨q0, _ | ⟨q1, _ | ⟨q2, _ | ⟨q3, _⟩⟩⟩⟩ <;> (first | exact Paired.nil | (repeat' (first | exact Paired.nil | assumption | refine Paired.cons ?_ ?_)))
theorem cgk_f_figures_many_base_number {b0 b1 b2 : V} {sp : Sp} {H : Hp} {Q : VK} {E : XK} (k : sp [b2, b1, b0] H Q E) : sp (gk_f_figures_many_base_number [] [b0, b1, b2]) H Q E := k
local macro_rules | `(tactic| tm_at "rs") => `(tactic| with_reducible refine cgk_f_figures_many_base_number ?_)
theorem kb_f_figures_many_base_number {K : PySem.W.Frag} {f : Addr} {fd : FuncData} (F : Fun K "figures" "figures" s_f_figures f fd) : KBinds K fd ["number", "base", "many"] ["many", "base", "number"] gg_f_figures_many_base_number gk_f_figures_many_base_number := by
  obtain ⟨oc, od, kV, doc, pm, an, cdv, ct, osl, rfl, lk, hcd⟩ := F.ex
  exact ⟨fun s us ws _ hl => match us, ws, hl with | [], [b0, b1, b2], _ => .of_eq rfl, fun r1 r2 => rel_gg_f_figures_many_base_number r1 r2⟩
def gg_f_bits_of_number {α : Type} : List α → List α → List α
  | [], [b0] => [b0]
  | _, _ => []
def gk_f_bits_of_number : List V → List V → List V := gg_f_bits_of_number
theorem rel_gg_f_bits_of_number {vs : List V} {us : List Value} {zs : List V} {ws : List Value} (r1 : Vals vs us) (r2 : Vals zs ws) : Vals (gg_f_bits_of_number vs zs) (gg_f_bits_of_number us ws) := by
  rcases r1 with _ | ⟨p0, _⟩ <;> rcases r2 with _ | ⟨q0, _ | ⟨q1, _⟩⟩ <;> (first | exact Paired.nil | (repeat' (first | exact Paired.nil | assumption | refine Paired.cons ?_ ?_)))
theorem cgk_f_bits_of_number {b0 : V} {sp : Sp} {H : Hp} {Q : VK} {E : XK} (k : sp [b0] H Q E) : sp (gk_f_bits_of_number [] [b0]) H Q E := k
local macro_rules | `(tactic| tm_at "rs") => `(tactic| with_reducible refine cgk_f_bits_of_number ?_)
theorem kb_f_bits_of_number {K : PySem.W.Frag} {f : Addr} {fd : FuncData} (F : Fun K "bits_of" "bits_of" s_f_bits_of f fd) : KBinds K fd ["number"] ["number"] gg_f_bits_of_number gk_f_bits_of_number := by
  obtain ⟨oc, od, kV, doc, pm, an, cdv, ct, osl, rfl, lk, hcd⟩ := F.ex
  exact ⟨fun s us ws _ hl => match us, ws, hl with | [], [b0], _ => .of_eq rfl, fun r1 r2 => rel_gg_f_bits_of_number r1 r2⟩
def gg_f_fits_other_one {α : Type} : List α → List α → List α
  | [], [b0, b1] => [b1, b0]
  | _, _ => []
def gk_f_fits_other_one : List V → List V → List V := gg_f_fits_other_one
theorem rel_gg_f_fits_other_one {vs : List V} {us : List Value} {zs : List V} {ws : List Value} (r1 : Vals vs us) (r2 : Vals zs ws) : Vals (gg_f_fits_other_one vs zs) (gg_f_fits_other_one us ws) := by
  rcases r1 with _ | ⟨p0, _⟩ <;> rcases r2 with _ | ⟨q0, _ | ⟨q1, _ | ⟨q2, _⟩⟩⟩ <;> (first | exact Paired.nil | (repeat' (first | exact Paired.nil | assumption | refine Paired.cons ?_ ?_)))
theorem cgk_f_fits_other_one {b0 b1 : V} {sp : Sp} {H : Hp} {Q : VK} {E : XK} (k : sp [b1, b0] H Q E) : sp (gk_f_fits_other_one [] [b0, b1]) H Q E := k
local macro_rules | `(tactic| tm_at "rs") => `(tactic| with_reducible refine cgk_f_fits_other_one ?_)
theorem kb_f_fits_other_one {K : PySem.W.Frag} {f : Addr} {fd : FuncData} (F : Fun K "fits" "fits" s_f_fits f fd) : KBinds K fd ["one", "other"] ["other", "one"] gg_f_fits_other_one gk_f_fits_other_one := by
  obtain ⟨oc, od, kV, doc, pm, an, cdv, ct, osl, rfl, lk, hcd⟩ := F.ex
  exact ⟨fun s us ws _ hl => match us, ws, hl with | [], [b0, b1], _ => .of_eq rfl, fun r1 r2 => rel_gg_f_fits_other_one r1 r2⟩
def gg_f_stands_out_other_one {α : Type} : List α → List α → List α
  | [], [b0, b1] => [b1, b0]
  | _, _ => []
def gk_f_stands_out_other_one : List V → List V → List V := gg_f_stands_out_other_one
theorem rel_gg_f_stands_out_other_one {vs : List V} {us : List Value} {zs : List V} {ws : List Value} (r1 : Vals vs us) (r2 : Vals zs ws) : Vals (gg_f_stands_out_other_one vs zs) (gg_f_stands_out_other_one us ws) := by
  rcases r1 with _ | ⟨p0, _⟩ <;> rcases r2 with _ | ⟨q0, _ | ⟨q1, _ | ⟨q2, _⟩⟩⟩ <;> (first | exact Paired.nil | (repeat' (first | exact Paired.nil | assumption | refine Paired.cons ?_ ?_)))
theorem cgk_f_stands_out_other_one {b0 b1 : V} {sp : Sp} {H : Hp} {Q : VK} {E : XK} (k : sp [b1, b0] H Q E) : sp (gk_f_stands_out_other_one [] [b0, b1]) H Q E := k
local macro_rules | `(tactic| tm_at "rs") => `(tactic| with_reducible refine cgk_f_stands_out_other_one ?_)
theorem kb_f_stands_out_other_one {K : PySem.W.Frag} {f : Addr} {fd : FuncData} (F : Fun K "stands_out" "stands_out" s_f_stands_out f fd) : KBinds K fd ["one", "other"] ["other", "one"] gg_f_stands_out_other_one gk_f_stands_out_other_one := by
  obtain ⟨oc, od, kV, doc, pm, an, cdv, ct, osl, rfl, lk, hcd⟩ := F.ex
  exact ⟨fun s us ws _ hl => match us, ws, hl with | [], [b0, b1], _ => .of_eq rfl, fun r1 r2 => rel_gg_f_stands_out_other_one r1 r2⟩
def gg_f_of_bits_text {α : Type} : List α → List α → List α
  | [], [b0] => [b0]
  | _, _ => []
def gk_f_of_bits_text : List V → List V → List V := gg_f_of_bits_text
theorem rel_gg_f_of_bits_text {vs : List V} {us : List Value} {zs : List V} {ws : List Value} (r1 : Vals vs us) (r2 : Vals zs ws) : Vals (gg_f_of_bits_text vs zs) (gg_f_of_bits_text us ws) := by
  rcases r1 with _ | ⟨p0, _⟩ <;> rcases r2 with _ | ⟨q0, _ | ⟨q1, _⟩⟩ <;> (first | exact Paired.nil | (repeat' (first | exact Paired.nil | assumption | refine Paired.cons ?_ ?_)))
theorem cgk_f_of_bits_text {b0 : V} {sp : Sp} {H : Hp} {Q : VK} {E : XK} (k : sp [b0] H Q E) : sp (gk_f_of_bits_text [] [b0]) H Q E := k
local macro_rules | `(tactic| tm_at "rs") => `(tactic| with_reducible refine cgk_f_of_bits_text ?_)
theorem kb_f_of_bits_text {K : PySem.W.Frag} {f : Addr} {fd : FuncData} (F : Fun K "of_bits" "of_bits" s_f_of_bits f fd) : KBinds K fd ["text"] ["text"] gg_f_of_bits_text gk_f_of_bits_text := by
  obtain ⟨oc, od, kV, doc, pm, an, cdv, ct, osl, rfl, lk, hcd⟩ := F.ex
  exact ⟨fun s us ws _ hl => match us, ws, hl with | [], [b0], _ => .of_eq rfl, fun r1 r2 => rel_gg_f_of_bits_text r1 r2⟩
def gg_f_how_many_number {α : Type} : List α → List α → List α
  | [], [b0] => [b0]
  | _, _ => []
def gk_f_how_many_number : List V → List V → List V := gg_f_how_many_number
theorem rel_gg_f_how_many_number {vs : List V} {us : List Value} {zs : List V} {ws : List Value} (r1 : Vals vs us) (r2 : Vals zs ws) : Vals (gg_f_how_many_number vs zs) (gg_f_how_many_number us ws) := by
  rcases r1 with _ | ⟨p0, _⟩ <;> rcases r2 with _ | ⟨q0, _ | ⟨q1, _⟩⟩ <;> (first | exact Paired.nil | (repeat' (first | exact Paired.nil | assumption | refine Paired.cons ?_ ?_)))
theorem cgk_f_how_many_number {b0 : V} {sp : Sp} {H : Hp} {Q : VK} {E : XK} (k : sp [b0] H Q E) : sp (gk_f_how_many_number [] [b0]) H Q E := k
local macro_rules | `(tactic| tm_at "rs") => `(tactic| with_reducible refine cgk_f_how_many_number ?_)
theorem kb_f_how_many_number {K : PySem.W.Frag} {f : Addr} {fd : FuncData} (F : Fun K "how_many" "how_many" s_f_how_many f fd) : KBinds K fd ["number"] ["number"] gg_f_how_many_number gk_f_how_many_number := by
  obtain ⟨oc, od, kV, doc, pm, an, cdv, ct, osl, rfl, lk, hcd⟩ := F.ex
  exact ⟨fun s us ws _ hl => match us, ws, hl with | [], [b0], _ => .of_eq rfl, fun r1 r2 => rel_gg_f_how_many_number r1 r2⟩
def gg_f_choose_k_n {α : Type} : List α → List α → List α
  | [], [b0, b1] => [b1, b0]
  | _, _ => []
def gk_f_choose_k_n : List V → List V → List V := gg_f_choose_k_n
theorem rel_gg_f_choose_k_n {vs : List V} {us : List Value} {zs : List V} {ws : List Value} (r1 : Vals vs us) (r2 : Vals zs ws) : Vals (gg_f_choose_k_n vs zs) (gg_f_choose_k_n us ws) := by
  rcases r1 with _ | ⟨p0, _⟩ <;> rcases r2 with _ | ⟨q0, _ | ⟨q1, _ | ⟨q2, _⟩⟩⟩ <;> (first | exact Paired.nil | (repeat' (first | exact Paired.nil | assumption | refine Paired.cons ?_ ?_)))
theorem cgk_f_choose_k_n {b0 b1 : V} {sp : Sp} {H : Hp} {Q : VK} {E : XK} (k : sp [b1, b0] H Q E) : sp (gk_f_choose_k_n [] [b0, b1]) H Q E := k
local macro_rules | `(tactic| tm_at "rs") => `(tactic| with_reducible refine cgk_f_choose_k_n ?_)
theorem kb_f_choose_k_n {K : PySem.W.Frag} {f : Addr} {fd : FuncData} (F : Fun K "choose" "choose" s_f_choose f fd) : KBinds K fd ["n", "k"] ["k", "n"] gg_f_choose_k_n gk_f_choose_k_n := by
  obtain ⟨oc, od, kV, doc, pm, an, cdv, ct, osl, rfl, lk, hcd⟩ := F.ex
  exact ⟨fun s us ws _ hl => match us, ws, hl with | [], [b0, b1], _ => .of_eq rfl, fun r1 r2 => rel_gg_f_choose_k_n r1 r2⟩
def gg_f_halvings_number {α : Type} : List α → List α → List α
  | [], [b0] => [b0]
  | _, _ => []
def gk_f_halvings_number : List V → List V → List V := gg_f_halvings_number
theorem rel_gg_f_halvings_number {vs : List V} {us : List Value} {zs : List V} {ws : List Value} (r1 : Vals vs us) (r2 : Vals zs ws) : Vals (gg_f_halvings_number vs zs) (gg_f_halvings_number us ws) := by
  rcases r1 with _ | ⟨p0, _⟩ <;> rcases r2 with _ | ⟨q0, _ | ⟨q1, _⟩⟩ <;> (first | exact Paired.nil | (repeat' (first | exact Paired.nil | assumption | refine Paired.cons ?_ ?_)))
theorem cgk_f_halvings_number {b0 : V} {sp : Sp} {H : Hp} {Q : VK} {E : XK} (k : sp [b0] H Q E) : sp (gk_f_halvings_number [] [b0]) H Q E := k
local macro_rules | `(tactic| tm_at "rs") => `(tactic| with_reducible refine cgk_f_halvings_number ?_)
theorem kb_f_halvings_number {K : PySem.W.Frag} {f : Addr} {fd : FuncData} (F : Fun K "halvings" "halvings" s_f_halvings f fd) : KBinds K fd ["number"] ["number"] gg_f_halvings_number gk_f_halvings_number := by
  obtain ⟨oc, od, kV, doc, pm, an, cdv, ct, osl, rfl, lk, hcd⟩ := F.ex
  exact ⟨fun s us ws _ hl => match us, ws, hl with | [], [b0], _ => .of_eq rfl, fun r1 r2 => rel_gg_f_halvings_number r1 r2⟩
def gg_f_carries_other_one {α : Type} : List α → List α → List α
  | [], [b0, b1] => [b1, b0]
  | _, _ => []
def gk_f_carries_other_one : List V → List V → List V := gg_f_carries_other_one
theorem rel_gg_f_carries_other_one {vs : List V} {us : List Value} {zs : List V} {ws : List Value} (r1 : Vals vs us) (r2 : Vals zs ws) : Vals (gg_f_carries_other_one vs zs) (gg_f_carries_other_one us ws) := by
  rcases r1 with _ | ⟨p0, _⟩ <;> rcases r2 with _ | ⟨q0, _ | ⟨q1, _ | ⟨q2, _⟩⟩⟩ <;> (first | exact Paired.nil | (repeat' (first | exact Paired.nil | assumption | refine Paired.cons ?_ ?_)))
theorem cgk_f_carries_other_one {b0 b1 : V} {sp : Sp} {H : Hp} {Q : VK} {E : XK} (k : sp [b1, b0] H Q E) : sp (gk_f_carries_other_one [] [b0, b1]) H Q E := k
local macro_rules | `(tactic| tm_at "rs") => `(tactic| with_reducible refine cgk_f_carries_other_one ?_)
theorem kb_f_carries_other_one {K : PySem.W.Frag} {f : Addr} {fd : FuncData} (F : Fun K "carries" "carries" s_f_carries f fd) : KBinds K fd ["one", "other"] ["other", "one"] gg_f_carries_other_one gk_f_carries_other_one := by
  obtain ⟨oc, od, kV, doc, pm, an, cdv, ct, osl, rfl, lk, hcd⟩ := F.ex
  exact ⟨fun s us ws _ hl => match us, ws, hl with | [], [b0, b1], _ => .of_eq rfl, fun r1 r2 => rel_gg_f_carries_other_one r1 r2⟩
def gg_f_is_odd_k_n {α : Type} : List α → List α → List α
  | [], [b0, b1] => [b1, b0]
  | _, _ => []
def gk_f_is_odd_k_n : List V → List V → List V := gg_f_is_odd_k_n
theorem rel_gg_f_is_odd_k_n {vs : List V} {us : List Value} {zs : List V} {ws : List Value} (r1 : Vals vs us) (r2 : Vals zs ws) : Vals (gg_f_is_odd_k_n vs zs) (gg_f_is_odd_k_n us ws) := by
  rcases r1 with _ | ⟨p0, _⟩ <;> rcases r2 with _ | ⟨q0, _ | ⟨q1, _ | ⟨q2, _⟩⟩⟩ <;> (first | exact Paired.nil | (repeat' (first | exact Paired.nil | assumption | refine Paired.cons ?_ ?_)))
theorem cgk_f_is_odd_k_n {b0 b1 : V} {sp : Sp} {H : Hp} {Q : VK} {E : XK} (k : sp [b1, b0] H Q E) : sp (gk_f_is_odd_k_n [] [b0, b1]) H Q E := k
local macro_rules | `(tactic| tm_at "rs") => `(tactic| with_reducible refine cgk_f_is_odd_k_n ?_)
theorem kb_f_is_odd_k_n {K : PySem.W.Frag} {f : Addr} {fd : FuncData} (F : Fun K "is_odd" "is_odd" s_f_is_odd f fd) : KBinds K fd ["n", "k"] ["k", "n"] gg_f_is_odd_k_n gk_f_is_odd_k_n := by
  obtain ⟨oc, od, kV, doc, pm, an, cdv, ct, osl, rfl, lk, hcd⟩ := F.ex
  exact ⟨fun s us ws _ hl => match us, ws, hl with | [], [b0, b1], _ => .of_eq rfl, fun r1 r2 => rel_gg_f_is_odd_k_n r1 r2⟩
def gg_f_figure_of_power_k_n {α : Type} : List α → List α → List α
  | [], [b0, b1] => [b1, b0]
  | _, _ => []
def gk_f_figure_of_power_k_n : List V → List V → List V := gg_f_figure_of_power_k_n
theorem rel_gg_f_figure_of_power_k_n {vs : List V} {us : List Value} {zs : List V} {ws : List Value} (r1 : Vals vs us) (r2 : Vals zs ws) : Vals (gg_f_figure_of_power_k_n vs zs) (gg_f_figure_of_power_k_n us ws) := by
  rcases r1 with _ | ⟨p0, _⟩ <;> rcases r2 with _ | ⟨q0, _ | ⟨q1, _ | ⟨q2, _⟩⟩⟩ <;> (first | exact Paired.nil | (repeat' (first | exact Paired.nil | assumption | refine Paired.cons ?_ ?_)))
theorem cgk_f_figure_of_power_k_n {b0 b1 : V} {sp : Sp} {H : Hp} {Q : VK} {E : XK} (k : sp [b1, b0] H Q E) : sp (gk_f_figure_of_power_k_n [] [b0, b1]) H Q E := k
local macro_rules | `(tactic| tm_at "rs") => `(tactic| with_reducible refine cgk_f_figure_of_power_k_n ?_)
theorem kb_f_figure_of_power_k_n {K : PySem.W.Frag} {f : Addr} {fd : FuncData} (F : Fun K "figure_of_power" "figure_of_power" s_f_figure_of_power f fd) : KBinds K fd ["n", "k"] ["k", "n"] gg_f_figure_of_power_k_n gk_f_figure_of_power_k_n := by
  obtain ⟨oc, od, kV, doc, pm, an, cdv, ct, osl, rfl, lk, hcd⟩ := F.ex
  exact ⟨fun s us ws _ hl => match us, ws, hl with | [], [b0, b1], _ => .of_eq rfl, fun r1 r2 => rel_gg_f_figure_of_power_k_n r1 r2⟩
def gg_f_renamed_names_saying {α : Type} : List α → List α → List α
  | [], [b0, b1] => [b1, b0]
  | _, _ => []
def gk_f_renamed_names_saying : List V → List V → List V := gg_f_renamed_names_saying
theorem rel_gg_f_renamed_names_saying {vs : List V} {us : List Value} {zs : List V} {ws : List Value} (r1 : Vals vs us) (r2 : Vals zs ws) : Vals (gg_f_renamed_names_saying vs zs) (gg_f_renamed_names_saying us ws) := by
  rcases r1 with _ | ⟨p0, _⟩ <;> rcases r2 with _ | ⟨q0, _ | ⟨q1, _ | ⟨q2, _⟩⟩⟩ <;> (first | exact Paired.nil | (repeat' (first | exact Paired.nil | assumption | refine Paired.cons ?_ ?_)))
theorem cgk_f_renamed_names_saying {b0 b1 : V} {sp : Sp} {H : Hp} {Q : VK} {E : XK} (k : sp [b1, b0] H Q E) : sp (gk_f_renamed_names_saying [] [b0, b1]) H Q E := k
local macro_rules | `(tactic| tm_at "rs") => `(tactic| with_reducible refine cgk_f_renamed_names_saying ?_)
theorem kb_f_renamed_names_saying {K : PySem.W.Frag} {f : Addr} {fd : FuncData} (F : Fun K "renamed" "renamed" s_f_renamed f fd) : KBinds K fd ["saying", "names"] ["names", "saying"] gg_f_renamed_names_saying gk_f_renamed_names_saying := by
  obtain ⟨oc, od, kV, doc, pm, an, cdv, ct, osl, rfl, lk, hcd⟩ := F.ex
  exact ⟨fun s us ws _ hl => match us, ws, hl with | [], [b0, b1], _ => .of_eq rfl, fun r1 r2 => rel_gg_f_renamed_names_saying r1 r2⟩
def gg_f_holds_answer_saying {α : Type} : List α → List α → List α
  | [], [b0, b1] => [b1, b0]
  | _, _ => []
def gk_f_holds_answer_saying : List V → List V → List V := gg_f_holds_answer_saying
theorem rel_gg_f_holds_answer_saying {vs : List V} {us : List Value} {zs : List V} {ws : List Value} (r1 : Vals vs us) (r2 : Vals zs ws) : Vals (gg_f_holds_answer_saying vs zs) (gg_f_holds_answer_saying us ws) := by
  rcases r1 with _ | ⟨p0, _⟩ <;> rcases r2 with _ | ⟨q0, _ | ⟨q1, _ | ⟨q2, _⟩⟩⟩ <;> (first | exact Paired.nil | (repeat' (first | exact Paired.nil | assumption | refine Paired.cons ?_ ?_)))
theorem cgk_f_holds_answer_saying {b0 b1 : V} {sp : Sp} {H : Hp} {Q : VK} {E : XK} (k : sp [b1, b0] H Q E) : sp (gk_f_holds_answer_saying [] [b0, b1]) H Q E := k
local macro_rules | `(tactic| tm_at "rs") => `(tactic| with_reducible refine cgk_f_holds_answer_saying ?_)
theorem kb_f_holds_answer_saying {K : PySem.W.Frag} {f : Addr} {fd : FuncData} (F : Fun K "holds" "holds" s_f_holds f fd) : KBinds K fd ["saying", "answer"] ["answer", "saying"] gg_f_holds_answer_saying gk_f_holds_answer_saying := by
  obtain ⟨oc, od, kV, doc, pm, an, cdv, ct, osl, rfl, lk, hcd⟩ := F.ex
  exact ⟨fun s us ws _ hl => match us, ws, hl with | [], [b0, b1], _ => .of_eq rfl, fun r1 r2 => rel_gg_f_holds_answer_saying r1 r2⟩
def gg_f_off_answer_saying {α : Type} : List α → List α → List α
  | [], [b0, b1] => [b1, b0]
  | _, _ => []
def gk_f_off_answer_saying : List V → List V → List V := gg_f_off_answer_saying
theorem rel_gg_f_off_answer_saying {vs : List V} {us : List Value} {zs : List V} {ws : List Value} (r1 : Vals vs us) (r2 : Vals zs ws) : Vals (gg_f_off_answer_saying vs zs) (gg_f_off_answer_saying us ws) := by
  rcases r1 with _ | ⟨p0, _⟩ <;> rcases r2 with _ | ⟨q0, _ | ⟨q1, _ | ⟨q2, _⟩⟩⟩ <;> (first | exact Paired.nil | (repeat' (first | exact Paired.nil | assumption | refine Paired.cons ?_ ?_)))
theorem cgk_f_off_answer_saying {b0 b1 : V} {sp : Sp} {H : Hp} {Q : VK} {E : XK} (k : sp [b1, b0] H Q E) : sp (gk_f_off_answer_saying [] [b0, b1]) H Q E := k
local macro_rules | `(tactic| tm_at "rs") => `(tactic| with_reducible refine cgk_f_off_answer_saying ?_)
theorem kb_f_off_answer_saying {K : PySem.W.Frag} {f : Addr} {fd : FuncData} (F : Fun K "off" "off" s_f_off f fd) : KBinds K fd ["saying", "answer"] ["answer", "saying"] gg_f_off_answer_saying gk_f_off_answer_saying := by
  obtain ⟨oc, od, kV, doc, pm, an, cdv, ct, osl, rfl, lk, hcd⟩ := F.ex
  exact ⟨fun s us ws _ hl => match us, ws, hl with | [], [b0, b1], _ => .of_eq rfl, fun r1 r2 => rel_gg_f_off_answer_saying r1 r2⟩
def gg_f_first_wrong_answer_sayings {α : Type} : List α → List α → List α
  | [], [b0, b1] => [b1, b0]
  | _, _ => []
def gk_f_first_wrong_answer_sayings : List V → List V → List V := gg_f_first_wrong_answer_sayings
theorem rel_gg_f_first_wrong_answer_sayings {vs : List V} {us : List Value} {zs : List V} {ws : List Value} (r1 : Vals vs us) (r2 : Vals zs ws) : Vals (gg_f_first_wrong_answer_sayings vs zs) (gg_f_first_wrong_answer_sayings us ws) := by
  rcases r1 with _ | ⟨p0, _⟩ <;> rcases r2 with _ | ⟨q0, _ | ⟨q1, _ | ⟨q2, _⟩⟩⟩ <;> (first | exact Paired.nil | (repeat' (first | exact Paired.nil | assumption | refine Paired.cons ?_ ?_)))
theorem cgk_f_first_wrong_answer_sayings {b0 b1 : V} {sp : Sp} {H : Hp} {Q : VK} {E : XK} (k : sp [b1, b0] H Q E) : sp (gk_f_first_wrong_answer_sayings [] [b0, b1]) H Q E := k
local macro_rules | `(tactic| tm_at "rs") => `(tactic| with_reducible refine cgk_f_first_wrong_answer_sayings ?_)
theorem kb_f_first_wrong_answer_sayings {K : PySem.W.Frag} {f : Addr} {fd : FuncData} (F : Fun K "first_wrong" "first_wrong" s_f_first_wrong f fd) : KBinds K fd ["sayings", "answer"] ["answer", "sayings"] gg_f_first_wrong_answer_sayings gk_f_first_wrong_answer_sayings := by
  obtain ⟨oc, od, kV, doc, pm, an, cdv, ct, osl, rfl, lk, hcd⟩ := F.ex
  exact ⟨fun s us ws _ hl => match us, ws, hl with | [], [b0, b1], _ => .of_eq rfl, fun r1 r2 => rel_gg_f_first_wrong_answer_sayings r1 r2⟩
def gg_f_far_off_answer_sayings {α : Type} : List α → List α → List α
  | [], [b0, b1] => [b1, b0]
  | _, _ => []
def gk_f_far_off_answer_sayings : List V → List V → List V := gg_f_far_off_answer_sayings
theorem rel_gg_f_far_off_answer_sayings {vs : List V} {us : List Value} {zs : List V} {ws : List Value} (r1 : Vals vs us) (r2 : Vals zs ws) : Vals (gg_f_far_off_answer_sayings vs zs) (gg_f_far_off_answer_sayings us ws) := by
  rcases r1 with _ | ⟨p0, _⟩ <;> rcases r2 with _ | ⟨q0, _ | ⟨q1, _ | ⟨q2, _⟩⟩⟩ <;> (first | exact Paired.nil | (repeat' (first | exact Paired.nil | assumption | refine Paired.cons ?_ ?_)))
theorem cgk_f_far_off_answer_sayings {b0 b1 : V} {sp : Sp} {H : Hp} {Q : VK} {E : XK} (k : sp [b1, b0] H Q E) : sp (gk_f_far_off_answer_sayings [] [b0, b1]) H Q E := k
local macro_rules | `(tactic| tm_at "rs") => `(tactic| with_reducible refine cgk_f_far_off_answer_sayings ?_)
theorem kb_f_far_off_answer_sayings {K : PySem.W.Frag} {f : Addr} {fd : FuncData} (F : Fun K "far_off" "far_off" s_f_far_off f fd) : KBinds K fd ["sayings", "answer"] ["answer", "sayings"] gg_f_far_off_answer_sayings gk_f_far_off_answer_sayings := by
  obtain ⟨oc, od, kV, doc, pm, an, cdv, ct, osl, rfl, lk, hcd⟩ := F.ex
  exact ⟨fun s us ws _ hl => match us, ws, hl with | [], [b0, b1], _ => .of_eq rfl, fun r1 r2 => rel_gg_f_far_off_answer_sayings r1 r2⟩
def gg_f_either_other_one {α : Type} : List α → List α → List α
  | [], [b0, b1] => [b1, b0]
  | _, _ => []
def gk_f_either_other_one : List V → List V → List V := gg_f_either_other_one
theorem rel_gg_f_either_other_one {vs : List V} {us : List Value} {zs : List V} {ws : List Value} (r1 : Vals vs us) (r2 : Vals zs ws) : Vals (gg_f_either_other_one vs zs) (gg_f_either_other_one us ws) := by
  rcases r1 with _ | ⟨p0, _⟩ <;> rcases r2 with _ | ⟨q0, _ | ⟨q1, _ | ⟨q2, _⟩⟩⟩ <;> (first | exact Paired.nil | (repeat' (first | exact Paired.nil | assumption | refine Paired.cons ?_ ?_)))
theorem cgk_f_either_other_one {b0 b1 : V} {sp : Sp} {H : Hp} {Q : VK} {E : XK} (k : sp [b1, b0] H Q E) : sp (gk_f_either_other_one [] [b0, b1]) H Q E := k
local macro_rules | `(tactic| tm_at "rs") => `(tactic| with_reducible refine cgk_f_either_other_one ?_)
theorem kb_f_either_other_one {K : PySem.W.Frag} {f : Addr} {fd : FuncData} (F : Fun K "either" "either" s_f_either f fd) : KBinds K fd ["one", "other"] ["other", "one"] gg_f_either_other_one gk_f_either_other_one := by
  obtain ⟨oc, od, kV, doc, pm, an, cdv, ct, osl, rfl, lk, hcd⟩ := F.ex
  exact ⟨fun s us ws _ hl => match us, ws, hl with | [], [b0, b1], _ => .of_eq rfl, fun r1 r2 => rel_gg_f_either_other_one r1 r2⟩
def gg_f_made_one_sayings {α : Type} : List α → List α → List α
  | [], [b0] => [b0]
  | _, _ => []
def gk_f_made_one_sayings : List V → List V → List V := gg_f_made_one_sayings
theorem rel_gg_f_made_one_sayings {vs : List V} {us : List Value} {zs : List V} {ws : List Value} (r1 : Vals vs us) (r2 : Vals zs ws) : Vals (gg_f_made_one_sayings vs zs) (gg_f_made_one_sayings us ws) := by
  rcases r1 with _ | ⟨p0, _⟩ <;> rcases r2 with _ | ⟨q0, _ | ⟨q1, _⟩⟩ <;> (first | exact Paired.nil | (repeat' (first | exact Paired.nil | assumption | refine Paired.cons ?_ ?_)))
theorem cgk_f_made_one_sayings {b0 : V} {sp : Sp} {H : Hp} {Q : VK} {E : XK} (k : sp [b0] H Q E) : sp (gk_f_made_one_sayings [] [b0]) H Q E := k
local macro_rules | `(tactic| tm_at "rs") => `(tactic| with_reducible refine cgk_f_made_one_sayings ?_)
theorem kb_f_made_one_sayings {K : PySem.W.Frag} {f : Addr} {fd : FuncData} (F : Fun K "made_one" "made_one" s_f_made_one f fd) : KBinds K fd ["sayings"] ["sayings"] gg_f_made_one_sayings gk_f_made_one_sayings := by
  obtain ⟨oc, od, kV, doc, pm, an, cdv, ct, osl, rfl, lk, hcd⟩ := F.ex
  exact ⟨fun s us ws _ hl => match us, ws, hl with | [], [b0], _ => .of_eq rfl, fun r1 r2 => rel_gg_f_made_one_sayings r1 r2⟩
/-! a box of draws -/
def BoxAt (H : Hp) (b : Addr) : Prop := ∃ x s : Int, H b = some (.lst [.int x, .int s]) ∧ 0 ≤ x ∧ 0 ≤ s ∧ s ≤ 2147483629
theorem BoxAt.sm {H H' : Hp} {b : Addr} (h : BoxAt H b) (e : Sm H H') : BoxAt H' b := by
  obtain ⟨x, s, h, r⟩ := h
  exact ⟨x, s, e _ _ h, r⟩
theorem BoxAt.kp {H H' : Hp} {b c : Addr} (h : BoxAt H b) (n : b ≠ c) (e : Kp c H H') : BoxAt H' b := by
  obtain ⟨x, s, h, r⟩ := h
  exact ⟨x, s, e _ _ n h, r⟩
theorem BoxAt.lst {H : Hp} {b : Addr} (h : BoxAt H b) : ∃ xs, H b = some (.lst xs) := by
  obtain ⟨x, s, h, r⟩ := h
  exact ⟨_, h⟩
def Wd (w : Int) : Prop := 0 < w ∧ w.natAbs.log2 < 9000
theorem wd_of {w : Int} (h0 : 0 < w) (h : w ≤ 10 ^ 60) : Wd w := by
  refine ⟨h0, ?_⟩
  have h1 : w.natAbs ≠ 0 := by omega
  rw [Nat.log2_lt h1]
  have h2 : w.natAbs ≤ 10 ^ 60 := by omega
  exact Nat.lt_of_le_of_lt h2 (by decide +kernel)
theorem wd_pow {w : Int} {k : Nat} (h0 : 0 < w) (h : w ≤ 2 ^ k) (hk : k < 9000) : Wd w := by
  refine ⟨h0, ?_⟩
  have h1 : w.natAbs ≠ 0 := by omega
  rw [Nat.log2_lt h1]
  have h2 : (w.natAbs : Int) ≤ ((2 ^ k : Nat) : Int) := by
    rw [Int.natCast_pow]
    have e : ((w.natAbs : Nat) : Int) = w := by omega
    rw [e]; exact h
  have h3 : w.natAbs ≤ 2 ^ k := Int.ofNat_le.mp h2
  exact Nat.lt_of_le_of_lt h3 (Nat.pow_lt_pow_right (by decide) hk)
/-- 10 to the power of 800 -/
def N800 : Int := 10 ^ 800
theorem n800_pos : 10 ^ 60 < N800 := by decide +kernel
theorem n800_le : N800 < 2 ^ 2660 := by decide +kernel
theorem n800_eq : N800 = 10 ^ 800 := rfl
theorem wd_800 {w : Int} (h0 : 0 < w) (h : w ≤ N800 + 10) : Wd w := wd_pow (k := 2661) h0 (by
  have h1 := n800_le
  have h2 : (2 : Int) ^ 2660 + 10 ≤ 2 ^ 2661 := by decide +kernel
  exact Int.le_trans (Int.le_trans h (Int.le_of_lt (Int.add_lt_add_right h1 10))) h2) (by decide)
theorem wd_two {z j : Int} (e : z = 2 ^ j.toNat) (l : j < 9000) : Wd z := by
  have h1 : (1 : Int) ≤ 2 ^ j.toNat := by
    have := Nat.two_pow_pos j.toNat
    have h2 : (2 : Int) ^ j.toNat = ((2 ^ j.toNat : Nat) : Int) := by rw [Int.natCast_pow]; rfl
    omega
  exact wd_pow (k := j.toNat) (by omega) (by omega) (by omega)

theorem ne_newB {H : Hp} {p b : Addr} (hp : H p = none) (hb : BoxAt H b) : p ≠ b := by
  obtain ⟨x, s, h, _⟩ := hb
  exact ne_new hp h
theorem ne_newB2 {H : Hp} {p b : Addr} (hp : H p = none) (hb : BoxAt H b) : b ≠ p := (ne_newB hp hb).symm
theorem g_bx {H H0 : Hp} {b : Addr} (_ : BoxAt H0 b) (h : BoxAt H b) : BoxAt H b := h
local macro_rules | `(tactic| tm_at "rbx") => `(tactic| first | with_reducible assumption | ((refine' g_bx ?sg ?sh); (case sg => with_reducible assumption); (case sh => tm_at "rbx0")) | fail "no")
local macro_rules | `(tactic| tm_at "rbx0") => `(tactic| first | with_reducible assumption | ((refine' BoxAt.sm ?sa ?sb); (case sb => with_reducible assumption); (case sa => tm_at "rbx0")) | ((refine' BoxAt.kp ?sa ?sc ?sb); (case sb => with_reducible assumption); (case sc => tm_at "rne"); (case sa => tm_at "rbx0")) | fail "no")
local macro_rules | `(tactic| tm_at "rne") => `(tactic| first | ((refine' ne_newB ?sa ?sb); (case sa => with_reducible assumption); (case sb => tm_at "rbx")) | ((refine' ne_newB2 ?sa ?sb); (case sa => with_reducible assumption); (case sb => tm_at "rbx")) | fail "no")
theorem AllT.kpB {P : List V → Prop} {xs : List V} {H H' : Hp} {b : Addr} (h : AllT P xs H) (hb : BoxAt H b) (e : Kp b H H') : AllT P xs H' := by
  obtain ⟨x, s, hb, _⟩ := hb
  exact h.kp hb e
local macro_rules | `(tactic| tm_at "rall") => `(tactic| first | with_reducible assumption | exact AllT.nil | ((refine' AllT.add ?sa ?sb ?sp); (case sa => tm_at "rall"); (case sb => tm_at "rlk"); (case sp => with_reducible assumption)) | ((refine' AllT.add ?sa ?sb ?sp); (case sa => tm_at "rall"); (case sb => tm_at "rlk")) | ((refine' AllT.app ?sa ?sb); (case sa => tm_at "rall"); (case sb => tm_at "rall")) | ((refine' AllT.cut ?sa); (case sa => tm_at "rall")) | ((refine' AllT.sm ?sa ?sb); (case sb => with_reducible assumption); (case sa => tm_at "rall")) | ((refine' AllT.kpB ?sa ?sc ?sb); (case sb => with_reducible assumption); (case sc => tm_at "rbx"); (case sa => tm_at "rall")) | ((refine' AllT.kp ?sa ?sc ?sb); (case sb => with_reducible assumption); (case sc => tm_at "rlk"); (case sa => tm_at "rall")) | fail "no")
theorem SqF.kpB {K : PySem.W.Frag} {xs : List V} {a : Addr} {H H' : Hp} {b : Addr} (h : SqF K H a xs) (hb : BoxAt H b) (e : Kp b H H') : SqF K H' a xs := by
  obtain ⟨x, s, hb, _⟩ := hb
  exact h.kp hb e
local macro_rules | `(tactic| tm_at "rsf0") => `(tactic| ((refine' SqF.kpB ?sa ?sc ?sb); (case sb => with_reducible assumption); (case sc => tm_at "rbx"); (case sa => tm_at "rsf0")))
local macro_rules | `(tactic| tm_at "rz") => `(tactic| first | with_reducible assumption | tm_at "rfr" | tm_at "rkp" | tm_at "rsm" | tm_at "rbx" | tm_at "rsf" | tm_at "rlk" | tm_at "rsq" | tm_at "rne" | omega | fail "no")

/-! figures to a number -/
def hrn (b : Int) : List Int → Int
  | [] => 0
  | x :: l => hrn b l * b + x
theorem hrn_app (b : Int) (x : Int) : ∀ l : List Int, hrn b (l ++ [x]) = hrn b l + x * b ^ l.length
  | [] => by
    show 0 * b + x = 0 + x * b ^ 0
    rw [Int.zero_mul, Int.pow_zero, Int.mul_one]
  | y :: l => by
    show hrn b (l ++ [x]) * b + y = hrn b l * b + y + x * b ^ (l.length + 1)
    rw [hrn_app b x l, Int.add_mul, Int.mul_assoc, ← Int.pow_succ, Int.add_right_comm]
theorem hrn_bd {b : Int} (hb : b.natAbs < 2 ^ 41) : ∀ l : List Int, (∀ n ∈ l, n.natAbs < 2 ^ 2000) → (hrn b l).natAbs < 2 ^ (2000 + 42 * l.length)
  | [], _ => Nat.two_pow_pos _
  | x :: l, h => by
    have h1 := hrn_bd hb l (fun n hn => h n (List.mem_cons_of_mem _ hn))
    have h2 := h x List.mem_cons_self
    have h3 : (hrn b l * b + x).natAbs ≤ (hrn b l).natAbs * b.natAbs + x.natAbs := by
      have := Int.natAbs_add_le (hrn b l * b) x
      rw [Int.natAbs_mul] at this
      exact this
    have h4 : (hrn b l).natAbs * b.natAbs < 2 ^ (2000 + 42 * l.length) * 2 ^ 41 := Nat.mul_lt_mul'' h1 hb
    have h5 : 2 ^ 2000 ≤ 2 ^ (2000 + 42 * l.length) * 2 ^ 41 := by
      rw [← Nat.pow_add]
      exact Nat.pow_le_pow_right (by decide) (by omega)
    have h6 : 2 ^ (2000 + 42 * (x :: l).length) = 2 ^ (2000 + 42 * l.length) * 2 ^ 41 + 2 ^ (2000 + 42 * l.length) * 2 ^ 41 := by
      rw [← Nat.pow_add, show 2000 + 42 * (x :: l).length = (2000 + 42 * l.length + 41) + 1 by rw [List.length_cons]; omega, Nat.pow_succ, Nat.mul_two]
    show (hrn b l * b + x).natAbs < _
    rw [h6]
    generalize 2 ^ (2000 + 42 * l.length) * 2 ^ 41 = A at *
    generalize (2 : Nat) ^ 2000 = B at *
    omega
theorem bpow_bd {b : Int} (hb : b.natAbs < 2 ^ 41) (i : Nat) : (b ^ i).natAbs < 2 ^ (41 * i + 1) := by
  rw [Int.natAbs_pow, Nat.pow_succ, Nat.pow_mul]
  have h := Nat.pow_le_pow_left (Nat.le_of_lt hb) i
  have h2 : 0 < (2 ^ 41 : Nat) ^ i := Nat.pow_pos (by decide)
  omega
theorem hrn_drop {b : Int} {ns : List Int} {i : Nat} {m : Int} (hi : i < ns.length) (h : ns[ns.length - 1 - i]? = some m) : hrn b (ns.drop (ns.length - (i + 1))) = hrn b (ns.drop (ns.length - i)) * b + m := by
  obtain ⟨h1, h2⟩ := List.getElem?_eq_some_iff.mp h
  have e : ns.length - (i + 1) = ns.length - 1 - i := by omega
  rw [e, List.drop_eq_getElem_cons h1, h2, show ns.length - 1 - i + 1 = ns.length - i by omega]
  rfl
theorem hrn_take {b : Int} {ns : List Int} {i : Nat} {m : Int} (h : ns[i]? = some m) : hrn b (ns.take (i + 1)) = hrn b (ns.take i) + m * b ^ i := by
  obtain ⟨h1, h2⟩ := List.getElem?_eq_some_iff.mp h
  rw [List.take_succ, h]
  show hrn b (ns.take i ++ [m]) = _
  rw [hrn_app, List.length_take, Nat.min_eq_left (Nat.le_of_lt h1)]
theorem ints_at {ns : List Int} {i : Nat} {x : V} (h : (ns.map V.int)[i]? = some x) : ∃ m, ns[i]? = some m ∧ x = V.int m := by
  rw [List.getElem?_map] at h
  cases e : ns[i]? with
  | none => rw [e] at h; cases h
  | some m => rw [e] at h; cases h; exact ⟨m, rfl, rfl⟩
/-! a walk backwards -/
def RvE (K : PySem.W.Frag) (R : It → Hp → Prop) (v : V) (H1 : Hp) : Prop := ∃ (a : Addr) (xs : List V), v = .ref a ∧ ((SqL K H1 a xs ∧ R (Itv K a xs.length) H1) ∨ (SqT K H1 a xs ∧ R (_root_.RT.ItvT K a xs.length) H1))
theorem w_iRv {K : PySem.W.Frag} {σ : L2.St} {H : Hp} {te : TE} {R : It → Hp → Prop} (k : te σ H fun v H1 => RvE K R v H1) : _root_.RT.iRevA K te σ H R := k
theorem walk_revT {K : PySem.W.Frag} {a : Addr} {xs : List V} : Walk (_root_.RT.ItvT K a xs.length) xs.length (fun H => SqT K H a xs) (fun i H x H' => H' = H ∧ xs[xs.length - 1 - i]? = some x) :=
  ⟨fun i H hi h => ⟨hi, xs, _, h, List.getElem?_eq_getElem (by omega)⟩, fun H h => Nat.le_refl _, fun i H x H' hi h y => ⟨y.1, y.2 xs h⟩⟩
theorem loopVL {σ : L2.St} {H : Hp} {D : Ends} {K : PySem.W.Frag} {g : TG} {tb : TS} {a : Addr} {xs : List V} (Pv : Nat → L2.St → Hp → Prop) (h0 : Pv 0 σ H) (hl : ∀ i σ H, i ≤ xs.length → Pv i σ H → SqL K H a xs)
    (hs : ∀ i x σ H, i < xs.length → xs[xs.length - 1 - i]? = some x → Pv i σ H → g x σ H fun σ2 H2 => tb (En (Pv (i + 1)) (RT D) (NX D) (Pv (i + 1))) σ2 H2) (hd : ∀ σ H, Pv xs.length σ H → NX D σ H) : Loop (Itv K a xs.length) g tb D σ H :=
  for_it walk_rev Pv h0 hl (fun i x σ H H' hi p y => by obtain ⟨rfl, e⟩ := y; exact hs i x σ _ hi e p) hd
theorem loopVT {σ : L2.St} {H : Hp} {D : Ends} {K : PySem.W.Frag} {g : TG} {tb : TS} {a : Addr} {xs : List V} (Pv : Nat → L2.St → Hp → Prop) (h0 : Pv 0 σ H) (hl : ∀ i σ H, i ≤ xs.length → Pv i σ H → SqT K H a xs)
    (hs : ∀ i x σ H, i < xs.length → xs[xs.length - 1 - i]? = some x → Pv i σ H → g x σ H fun σ2 H2 => tb (En (Pv (i + 1)) (RT D) (NX D) (Pv (i + 1))) σ2 H2) (hd : ∀ σ H, Pv xs.length σ H → NX D σ H) : Loop (_root_.RT.ItvT K a xs.length) g tb D σ H :=
  for_it walk_revT Pv h0 hl (fun i x σ H H' hi p y => by obtain ⟨rfl, e⟩ := y; exact hs i x σ _ hi e p) hd
theorem w_rep1 {H : Hp} {Q : VK} {l : Addr} {m j : Int} (h : H l = some (.lst [.int m])) (h0 : 0 ≤ j) (h1 : j ≤ 1000) (k : ∀ p H', H p = none → Sm H H' → H' p = some (.lst ((List.replicate j.toNat m).map V.int)) → Q (.ref p) H') : gMul (.ref l) (.int j) H Q := by
  refine .inr (.inr ⟨l, j, _, rfl, rfl, h, by omega, by omega, sz_of ?_, fun p hp => k p _ hp (sm_new hp) ?_⟩)
  · show 1 * j.toNat ≤ _
    omega
  · rw [upd_same, List.map_replicate, List.flatten_replicate_singleton]
theorem w_addInts {K : PySem.W.Frag} {H : Hp} {Q : VK} {l m : Addr} {ns ms : List Int} (h1 : H l = some (.lst (ns.map V.int))) (h2 : H m = some (.lst (ms.map V.int))) (z : ns.length + ms.length ≤ 1000) (k : ∀ p H', H p = none → Sm H H' → H' p = some (.lst ((ns ++ ms).map V.int)) → Q (.ref p) H') :
    gAdd K (.ref l) (.ref m) H Q := w_addL h1 h2 (sz_of (by rw [List.length_map, List.length_map]; omega)) fun p H' a b c => k p H' a b (by rw [List.map_append]; exact c)
theorem w_ix4P {K : PySem.W.Frag} {H : Hp} {Q : VK} {i : Int} {p : Addr} {x0 x1 x2 x3 : Int} (h : SqL K H p [.int x0, .int x1, .int x2, .int x3]) (h0 : 1 ≤ i) (h1 : i < 4) (k : ∀ z : Int, z = x1 ∨ z = x2 ∨ z = x3 → Q (.int z) H) : rIx K (.ref p) (.int i) H Q := by
  rcases (show i = 1 ∨ i = 2 ∨ i = 3 by omega) with rfl | rfl | rfl
  · exact w_ixL' h (atI_nat (j := 1) rfl) (k _ (by omega))
  · exact w_ixL' h (atI_nat (j := 2) rfl) (k _ (by omega))
  · exact w_ixL' h (atI_nat (j := 3) rfl) (k _ (by omega))
theorem w_gLstL {K : PySem.W.Frag} {H : Hp} {Q : VK} {p : Addr} {ys : List V} (h : SqL K H p ys) (k : ∀ l H', H l = none → Sm H H' → H' l = some (.lst ys) → Q (.ref l) H') : gLst K [.ref p] H Q := ⟨p, ys, rfl, .inl h, fun l hl => k l _ hl (sm_new hl) upd_same⟩
theorem w_gTplL {K : PySem.W.Frag} {H : Hp} {Q : VK} {p : Addr} {ys : List V} (h : SqL K H p ys) (k : ∀ l H', H l = none → Sm H H' → H' l = some (.tup ys) → Q (.ref l) H') : gTpl K [.ref p] H Q := ⟨p, ys, rfl, .inl ⟨h, fun l hl => k l _ hl (sm_new hl) upd_same⟩⟩
theorem dp_ints {K : PySem.W.Frag} {H : Hp} : ∀ ns : List Int, DpAll K H (ns.map V.int) (ns.map PyData.int)
  | [] => .nil
  | n :: ns => .cons (.int n) (dp_ints ns)
theorem w_neInts {K : PySem.W.Frag} {H : Hp} {Q : VK} {a b : Addr} {ns : List Int} (h1 : SqL K H a (ns.map V.int)) (h2 : SqL K H b (ns.map V.int)) (k : Q (.bl false) H) : gNe K (.ref a) (.ref b) H Q := by
  refine .inr ⟨.list (ns.map .int), .list (ns.map .int), .lst h1 (dp_ints ns), .lst h2 (dp_ints ns), PySem.W.ke_shaped_ints ns, PySem.W.ke_shaped_ints ns, ?_⟩
  have e : PyData.eqv (.list (ns.map .int)) (.list (ns.map .int)) = true := by
    rw [PyData.eqv, PySem.W.ked_eqvAll]
    exact decide_eq_true rfl
  rw [e]
  exact k
local macro_rules | `(tactic| tm_at "rs") => `(tactic| first | ((with_reducible refine' w_gLstL ?h (fun _ _ _ _ _ => ?k)); (case h => tm_at "rsq")) | fail "no")
local macro_rules | `(tactic| tm_at "rs") => `(tactic| first | ((with_reducible refine' w_gTplL ?h (fun _ _ _ _ _ => ?k)); (case h => tm_at "rsq")) | fail "no")
local macro_rules | `(tactic| tm_at "rs") => `(tactic| first | ((with_reducible refine' w_neInts ?h ?i ?k); (case h => tm_at "rsq"); (case i => tm_at "rsq")) | fail "no")
local macro_rules | `(tactic| tm_at "rs") => `(tactic| first | ((with_reducible refine' w_rep1 ?h ?i ?j (fun _ _ _ _ _ => ?k)); (case h => tm_at "rlk"); (case i => omega); (case j => omega)) | fail "no")
local macro_rules | `(tactic| tm_at "rs") => `(tactic| first | ((with_reducible refine' w_addInts ?h ?i ?z (fun _ _ _ _ _ => ?k)); (case h => tm_at "rlk"); (case i => tm_at "rlk"); (case z => (simp only [List.length_append, List.length_replicate]; omega))) | fail "no")
local macro_rules | `(tactic| tm_at "rs") => `(tactic| first | ((with_reducible refine' w_ix4P ?h ?a ?b (fun _ _ => ?k)); (case h => tm_at "rsq"); (case a => omega); (case b => omega)) | fail "no")
local macro_rules | `(tactic| tm_at "rs") => `(tactic| with_reducible refine w_iRv ?_)

/-! tuples stay as they are -/
def Tk (H H' : Hp) : Prop := ∀ p xs, H p = some (.tup xs) → H' p = some (.tup xs)
theorem Tk.refl (H : Hp) : Tk H H := fun _ _ h => h
theorem Tk.trans {H H1 H2 : Hp} (a : Tk H H1) (b : Tk H1 H2) : Tk H H2 := fun p xs h => b p xs (a p xs h)
theorem Tk.sm {H H' : Hp} (e : Sm H H') : Tk H H' := fun _ _ h => e _ _ h
theorem Tk.kp {H H' : Hp} {b : Addr} {ys : List V} (hb : H b = some (.lst ys)) (e : Kp b H H') : Tk H H' := fun p xs q => e _ _ (by
  intro z
  rw [z, hb] at q
  cases q) q
theorem Tk.kd {H H' : Hp} {b : Addr} {ys : List (Key × V)} (hb : H b = some (.dK ys)) (e : Kp b H H') : Tk H H' := fun p xs q => e _ _ (by
  intro z
  rw [z, hb] at q
  cases q) q
theorem Tk.ki {H H' : Hp} {b C dx : Addr} {ys : List (Str × V)} (hb : H b = some (.ins C dx ys)) (e : Kp b H H') : Tk H H' := fun p xs q => e _ _ (by
  intro z
  rw [z, hb] at q
  cases q) q
theorem Tk.kb {H H' : Hp} {b : Addr} (hb : BoxAt H b) (e : Kp b H H') : Tk H H' := by
  obtain ⟨x, s, hb, _⟩ := hb
  exact Tk.kp hb e
theorem Tk.kn {H H' : Hp} {b : Addr} (hb : H b = none) (e : Kp b H H') : Tk H H' := fun p xs q => e _ _ (ne_of_none q hb) q
local macro_rules | `(tactic| tm_at "rtk") => `(tactic| first | with_reducible assumption | exact Tk.refl _ | tm_at "rtk1" | ((refine' Tk.trans ?sa ?sb); (case sb => tm_at "rtk1"); (case sa => tm_at "rtk")) | fail "no")
local macro_rules | `(tactic| tm_at "rtk1") => `(tactic| first | exact Tk.sm (by with_reducible assumption) | ((refine' Tk.kb ?sa ?sb); (case sb => with_reducible assumption); (case sa => tm_at "rbx")) | ((refine' Tk.kp ?sa ?sb); (case sb => with_reducible assumption); (case sa => tm_at "rlk")) | ((refine' Tk.kd ?sa ?sb); (case sb => with_reducible assumption); (case sa => tm_at "rlk")) | ((refine' Tk.ki ?sa ?sb); (case sb => with_reducible assumption); (case sa => tm_at "rlk")) | ((refine' Tk.kn ?sa ?sb); (case sb => with_reducible assumption); (case sa => tm_at "rfr")) | with_reducible assumption | fail "no")
theorem g_tk {H H0 H1 : Hp} (_ : Tk H0 H1) (h : Tk H H1) : Tk H H1 := h
/-- a tuple, told ahead -/
theorem tk_lk {H H' : Hp} {p : Addr} {xs : List V} (h : H p = some (.tup xs)) (e : Tk H H') : H' p = some (.tup xs) := e _ _ h
local macro_rules | `(tactic| tm_at "rlk0") => `(tactic| first | ((refine' tk_lk ?sb ?sa); (case sa => with_reducible assumption); (case sb => tm_at "rlk0")) | fail "no")
/-! what stands in nested tuples -/
mutual
def TpD (H : Hp) : PyData → V → Prop
  | .tuple ds, v => ∃ p xs, v = .ref p ∧ H p = some (.tup xs) ∧ TpL H ds xs
  | .int i, v => v = .int i
  | .str s, v => v = .str s
  | .bool b, v => v = .bl b
  | .none, v => v = .non
  | .list _, _ => False
  | .dict _, _ => False
def TpL (H : Hp) : List PyData → List V → Prop
  | [], xs => xs = []
  | d :: ds, xs => ∃ v vs, xs = v :: vs ∧ TpD H d v ∧ TpL H ds vs
end
mutual
theorem TpD.tk {H H' : Hp} (e : Tk H H') : ∀ (d : PyData) (v : V), TpD H d v → TpD H' d v
  | .tuple ds, v, h => by
    unfold TpD at h ⊢
    obtain ⟨p, xs, rfl, q, r⟩ := h
    exact ⟨p, xs, rfl, e _ _ q, TpL.tk e ds xs r⟩
  | .int i, v, h => by unfold TpD at h ⊢; exact h
  | .str s, v, h => by unfold TpD at h ⊢; exact h
  | .bool b, v, h => by unfold TpD at h ⊢; exact h
  | .none, v, h => by unfold TpD at h ⊢; exact h
  | .list _, v, h => by unfold TpD at h; exact h.elim
  | .dict _, v, h => by unfold TpD at h; exact h.elim
theorem TpL.tk {H H' : Hp} (e : Tk H H') : ∀ (ds : List PyData) (xs : List V), TpL H ds xs → TpL H' ds xs
  | [], xs, h => by unfold TpL at h ⊢; exact h
  | d :: ds, xs, h => by
    unfold TpL at h ⊢
    obtain ⟨v, vs, rfl, q, r⟩ := h
    exact ⟨v, vs, rfl, TpD.tk e d v q, TpL.tk e ds vs r⟩
end
mutual
theorem TpD.dp {K : PySem.W.Frag} {H : Hp} : ∀ (d : PyData) (v : V), TpD H d v → Dp K H v d
  | .tuple ds, v, h => by
    unfold TpD at h
    obtain ⟨p, xs, rfl, q, r⟩ := h
    exact .tup (st_of q) (TpL.dp ds xs r)
  | .int i, v, h => by unfold TpD at h; subst h; exact .int _
  | .str s, v, h => by unfold TpD at h; subst h; exact .str _
  | .bool b, v, h => by unfold TpD at h; subst h; exact .bl _
  | .none, v, h => by unfold TpD at h; subst h; exact .non
  | .list _, v, h => by unfold TpD at h; exact h.elim
  | .dict _, v, h => by unfold TpD at h; exact h.elim
theorem TpL.dp {K : PySem.W.Frag} {H : Hp} : ∀ (ds : List PyData) (xs : List V), TpL H ds xs → DpAll K H xs ds
  | [], xs, h => by unfold TpL at h; subst h; exact .nil
  | d :: ds, xs, h => by
    unfold TpL at h
    obtain ⟨v, vs, rfl, q, r⟩ := h
    exact .cons (TpD.dp d v q) (TpL.dp ds vs r)
end
theorem tpd_t {H : Hp} {p : Addr} {xs : List V} {ds : List PyData} (h : H p = some (.tup xs)) (k : TpL H ds xs) : TpD H (.tuple ds) (.ref p) := by
  unfold TpD
  exact ⟨p, xs, rfl, h, k⟩
theorem tpd_i {H : Hp} {i : Int} : TpD H (.int i) (.int i) := by
  unfold TpD
  rfl
theorem tpd_s {H : Hp} {s : Str} : TpD H (.str s) (.str s) := by
  unfold TpD
  rfl
theorem tpl_nil {H : Hp} : TpL H [] [] := by
  unfold TpL
  rfl
theorem tpl_cons {H : Hp} {d : PyData} {ds : List PyData} {v : V} {vs : List V} (h : TpD H d v) (k : TpL H ds vs) : TpL H (d :: ds) (v :: vs) := by
  unfold TpL
  exact ⟨v, vs, rfl, h, k⟩
def nV (l : List Nat) : List V := l.map fun t => V.int (t : Nat)
def nD (l : List Nat) : List PyData := l.map fun t => PyData.int (t : Nat)
theorem tpl_nat {H : Hp} : ∀ l : List Nat, TpL H (nD l) (nV l)
  | [] => tpl_nil
  | x :: l => tpl_cons tpd_i (tpl_nat l)
theorem nV_snoc (l : List Nat) (x : Nat) : nV (l ++ [x]) = nV l ++ [V.int (x : Nat)] := List.map_append
theorem nV_len (l : List Nat) : (nV l).length = l.length := List.length_map _
theorem nV_app (l m : List Nat) : nV (l ++ m) = nV l ++ nV m := List.map_append
theorem nV_get {l : List Nat} {j x : Nat} (h : l[j]? = some x) : (nV l)[j]? = some (.int (x : Nat)) := by
  unfold nV
  rw [List.getElem?_map, h]
  rfl
theorem nV_take (l : List Nat) (n : Nat) : (nV l).take n = nV (l.take n) := by
  unfold nV
  rw [List.map_take]
theorem nV_drop (l : List Nat) (n : Nat) : (nV l).drop n = nV (l.drop n) := by
  unfold nV
  rw [List.map_drop]
theorem paired_last {α β : Type} {R : α → β → Prop} : ∀ {l : List α} {m : List β} {y : β}, Paired R l (m ++ [y]) → ∃ l' x, l = l' ++ [x] ∧ Paired R l' m ∧ R x y
  | _, [], _, .cons h .nil => ⟨[], _, rfl, .nil, h⟩
  | _, _ :: m, _, .cons h r => by
    obtain ⟨l', x, rfl, r1, r2⟩ := paired_last r
    exact ⟨_ :: l', x, rfl, .cons h r1, r2⟩
theorem paired_app {α β : Type} {R : α → β → Prop} : ∀ {l : List α} {m : List β} {l' : List α} {m' : List β}, Paired R l m → Paired R l' m' → Paired R (l ++ l') (m ++ m')
  | _, _, _, _, .nil, h => h
  | _, _, _, _, .cons a b, h => .cons a (paired_app b h)
theorem paired_mono {α β : Type} {F G : α → β → Prop} (h : ∀ p q, F p q → G p q) : ∀ {l : List α} {k : List β}, Paired F l k → Paired G l k
  | _, _, .nil => .nil
  | _, _, .cons a b => .cons (h _ _ a) (paired_mono h b)
theorem paired_len {α β : Type} {R : α → β → Prop} : ∀ {l : List α} {m : List β}, Paired R l m → l.length = m.length
  | _, _, .nil => rfl
  | _, _, .cons _ b => by rw [List.length_cons, List.length_cons, paired_len b]
theorem paired_get {α β : Type} {R : α → β → Prop} : ∀ {l : List α} {m : List β} {i : Nat} {x : α}, Paired R l m → l[i]? = some x → ∃ y, m[i]? = some y ∧ R x y
  | _, _, 0, _, .cons a b, h => ⟨_, rfl, by cases h; exact a⟩
  | _, _, i + 1, _, .cons a b, h => paired_get (i := i) b h
  | _, _, _, _, .nil, h => by cases h
theorem paired_getR {α β : Type} {R : α → β → Prop} : ∀ {l : List α} {m : List β} {i : Nat} {y : β}, Paired R l m → m[i]? = some y → ∃ x, l[i]? = some x ∧ R x y
  | _, _, 0, _, .cons a b, h => ⟨_, rfl, by cases h; exact a⟩
  | _, _, i + 1, _, .cons a b, h => paired_getR (i := i) b h
  | _, _, _, _, .nil, h => by cases h
theorem paired_rep {α β : Type} {R : α → β → Prop} {x : α} {y : β} (h : R x y) : ∀ n : Nat, Paired R (List.replicate n x) (List.replicate n y)
  | 0 => .nil
  | n + 1 => .cons h (paired_rep h n)
theorem w_rep1V {H : Hp} {Q : VK} {l : Addr} {v : V} {j : Int} (h : H l = some (.lst [v])) (h0 : 0 ≤ j) (h1 : j ≤ 1000) (k : ∀ p H', H p = none → Sm H H' → H' p = some (.lst (List.replicate j.toNat v)) → Q (.ref p) H') : gMul (.ref l) (.int j) H Q := by
  refine .inr (.inr ⟨l, j, _, rfl, rfl, h, by omega, by omega, sz_of ?_, fun p hp => k p _ hp (sm_new hp) ?_⟩)
  · show 1 * j.toNat ≤ _
    omega
  · rw [upd_same, List.flatten_replicate_singleton]
/-- one of a list -/
theorem w_ixP {K : PySem.W.Frag} {H : Hp} {Q : VK} {p : Addr} {xs : List V} {i : Int} (P : V → Prop) (h : SqL K H p xs ∨ SqT K H p xs) (h0 : 0 ≤ i) (h1 : i < (xs.length : Int)) (hx : ∀ x ∈ xs, P x) (k : ∀ x, P x → Q x H) : rIx K (.ref p) (.int i) H Q := by
  obtain ⟨j, rfl⟩ := Int.eq_ofNat_of_zero_le h0
  have hj : j < xs.length := by omega
  have e := List.getElem?_eq_getElem hj
  rcases h with h | h
  · exact w_ixL' h (atI_nat e) (k _ (hx _ (List.getElem_mem hj)))
  · exact w_ixT h (atI_nat e) (k _ (hx _ (List.getElem_mem hj)))
theorem w_ixN {K : PySem.W.Frag} {H : Hp} {Q : VK} {p : Addr} {xs : List Nat} {i : Int} (h : SqL K H p (nV xs) ∨ SqT K H p (nV xs)) (h0 : 0 ≤ i) (h1 : i < (xs.length : Int)) (k : ∀ x ∈ xs, Q (.int (x : Nat)) H) : rIx K (.ref p) (.int i) H Q :=
  w_ixP (fun v => ∃ x ∈ xs, v = .int (x : Nat)) h h0 (by rw [nV_len]; exact h1) (fun v hv => by
    obtain ⟨x, hx, e⟩ := List.mem_map.mp hv
    exact ⟨x, hx, e.symm⟩) (fun v hv => by
    obtain ⟨x, hx, rfl⟩ := hv
    exact k x hx)
theorem all2 {P : V → Prop} {x y : V} (hx : P x) (hy : P y) : ∀ z ∈ [x, y], P z := fun z hz => by
  rcases List.mem_cons.mp hz with rfl | hz
  · exact hx
  · rw [List.mem_singleton.mp hz]
    exact hy
theorem all3 {P : V → Prop} {x y u : V} (hx : P x) (hy : P y) (hu : P u) : ∀ z ∈ [x, y, u], P z := fun z hz => by
  rcases List.mem_cons.mp hz with rfl | hz
  · exact hx
  · exact all2 hy hu z hz
/-! a tuple that stands, or one of the module's own -/
def TpK (K : PySem.W.Frag) (H : Hp) (p : Addr) (xs : List V) : Prop := H p = some (.tup xs) ∨ ∀ H' : Hp, SqT K H' p xs
theorem TpK.imp {K : PySem.W.Frag} {H H' : Hp} {p : Addr} {xs : List V} (h : TpK K H p xs) (e : Tk H H') : TpK K H' p xs := h.elim (fun h => .inl (e _ _ h)) .inr
theorem TpK.sq {K : PySem.W.Frag} {H : Hp} {p : Addr} {xs : List V} (h : TpK K H p xs) : SqT K H p xs := h.elim st_of fun h => h H
theorem TpK.of {K : PySem.W.Frag} {H : Hp} {p : Addr} {xs : List V} (h : H p = some (.tup xs)) : TpK K H p xs := .inl h
local macro_rules | `(tactic| tm_at "rtp") => `(tactic| first | with_reducible assumption | exact TpK.of (by with_reducible assumption) | ((refine' TpK.imp ?sa ?sb); (case sa => with_reducible assumption); (case sb => tm_at "rtk")) | fail "no")
local macro_rules | `(tactic| tm_at "rst") => `(tactic| first | with_reducible assumption | ((refine' st_of ?sz); (case sz => tm_at "rlk")) | ((refine' TpK.sq ?sz); (case sz => tm_at "rtp")) | fail "no")

/-! terms: nested pairs and triples -/
inductive Tm where
  | num (n : Nat)
  | name (s : Str)
  | op (w : Str) (a b : Tm)
def Tm.dep : Tm → Nat
  | .num _ => 0
  | .name _ => 0
  | .op _ a b => max a.dep b.dep + 1
def Tm.wt : Tm → Nat
  | .num _ => 1
  | .name _ => 1
  | .op _ a b => a.wt + b.wt + 2
theorem Tm.wt_pos : ∀ t : Tm, 1 ≤ t.wt
  | .num _ => Nat.le_refl _
  | .name _ => Nat.le_refl _
  | .op _ a b => by
    show 1 ≤ a.wt + b.wt + 2
    omega
def TmAt (K : PySem.W.Frag) (H : Hp) : Tm → V → Prop
  | .num n, v => ∃ p, v = .ref p ∧ TpK K H p [.str "num", .int (n : Int)]
  | .name s, v => ∃ p, v = .ref p ∧ TpK K H p [.str "name", .str s]
  | .op w a b, v => ∃ p x y, v = .ref p ∧ TpK K H p [.str w, x, y] ∧ TmAt K H a x ∧ TmAt K H b y
theorem TmAt.imp {K : PySem.W.Frag} {H H' : Hp} (h : Tk H H') : ∀ {t : Tm} {v : V}, TmAt K H t v → TmAt K H' t v
  | .num n, v, ⟨p, e, q⟩ => ⟨p, e, q.imp h⟩
  | .name s, v, ⟨p, e, q⟩ => ⟨p, e, q.imp h⟩
  | .op w a b, v, ⟨p, x, y, e, q, r1, r2⟩ => ⟨p, x, y, e, q.imp h, TmAt.imp h r1, TmAt.imp h r2⟩
theorem TmAt.tk {K : PySem.W.Frag} {H H' : Hp} {t : Tm} {v : V} (r : TmAt K H t v) (e : Tk H H') : TmAt K H' t v := r.imp e
theorem TmAt.sm {K : PySem.W.Frag} {H H' : Hp} {t : Tm} {v : V} (r : TmAt K H t v) (e : Sm H H') : TmAt K H' t v := r.imp (Tk.sm e)
theorem TmAt.kpL {K : PySem.W.Frag} {H H' : Hp} {t : Tm} {v : V} {b : Addr} {ys : List V} (r : TmAt K H t v) (hb : H b = some (.lst ys)) (e : Kp b H H') : TmAt K H' t v := r.imp (Tk.kp hb e)
theorem TmAt.kpD {K : PySem.W.Frag} {H H' : Hp} {t : Tm} {v : V} {b : Addr} {ys : List (Key × V)} (r : TmAt K H t v) (hb : H b = some (.dK ys)) (e : Kp b H H') : TmAt K H' t v := r.imp (Tk.kd hb e)
theorem tm_num {K : PySem.W.Frag} {H : Hp} {p : Addr} {n : Nat} (h : H p = some (.tup [.str "num", .int (n : Int)])) : TmAt K H (.num n) (.ref p) := ⟨p, rfl, .inl h⟩
theorem tm_name {K : PySem.W.Frag} {H : Hp} {p : Addr} {s : Str} (h : H p = some (.tup [.str "name", .str s])) : TmAt K H (.name s) (.ref p) := ⟨p, rfl, .inl h⟩
theorem tm_op {K : PySem.W.Frag} {H : Hp} {p : Addr} {w : Str} {x y : V} {a b : Tm} (h : H p = some (.tup [.str w, x, y])) (ha : TmAt K H a x) (hb : TmAt K H b y) : TmAt K H (.op w a b) (.ref p) := ⟨p, x, y, rfl, .inl h, ha, hb⟩
def cm (w : Str) (x y : Nat) : Nat := if w = "plus" then x + y else if w = "times" then x * y else x ^ y
def ev (g : Str → Nat) : Tm → Nat
  | .num n => n
  | .name s => g s
  | .op w a b => cm w (ev g a) (ev g b)
def PwOk (x y n : Nat) : Prop := y * (n - 1) < 1000000 ∧ ∃ r : Nat, x ^ y < 2 ^ r ∧ r ≤ 1000000
theorem pw_of {x y n : Nat} (hx : x < 2 ^ n) (n1 : 1 ≤ n) (h : n * y ≤ 1000000) : PwOk x y n := by
  rcases Nat.eq_zero_or_pos y with h0 | h0
  · subst h0
    refine ⟨by omega, 1, ?_, by decide⟩
    rw [Nat.pow_zero]
    decide
  · refine ⟨?_, n * y, ?_, h⟩
    · rw [Nat.mul_comm] at h
      rw [Nat.mul_sub, Nat.mul_one]
      have := Nat.le_mul_of_pos_right y (show 0 < n by omega)
      omega
    · rw [Nat.pow_mul]
      exact Nat.pow_lt_pow_left hx (by omega)
def CmOk (w : Str) (x y : Nat) : Prop := ∃ n : Nat, 1 ≤ n ∧ x < 2 ^ n ∧ ((w = "plus" ∧ y < 2 ^ n ∧ n + 1 ≤ 1000000) ∨ (w = "times" ∧ ∃ m : Nat, y < 2 ^ m ∧ n + m ≤ 1000000) ∨ (w ≠ "plus" ∧ w ≠ "times" ∧ PwOk x y n))
def TmOk (kvs : List (Key × V)) (g : Str → Nat) : Tm → Prop
  | .num n => ∃ m : Nat, n < 2 ^ m ∧ m ≤ 1000000
  | .name s => valV kvs (.inr s) = some (.int (g s : Nat)) ∧ ∃ m : Nat, g s < 2 ^ m ∧ m ≤ 1000000
  | .op w a b => w ≠ "num" ∧ w ≠ "name" ∧ TmOk kvs g a ∧ TmOk kvs g b ∧ CmOk w (ev g a) (ev g b)
/-! fields of an own object -/
def FldE (K : PySem.W.Frag) (f : Str) (Q : VK) (x : V) (H1 : Hp) : Prop := ∃ (a C dx : Addr) (fs : List (Str × V)) (v : V), x = .ref a ∧ H1 a = some (.ins C dx fs) ∧ Cls K C ∧ NoAttr K C f ∧ fs.lookup f = some v ∧ Q v H1
theorem w_fld {K : PySem.W.Frag} {f : Str} {σ : L2.St} {H : Hp} {Q : VK} {ta : TE} (k : ta σ H fun x H1 => FldE K f Q x H1) : tFld K ta f σ H Q := k
def SFldE (K : PySem.W.Frag) (f : Str) (D : Ends) (σ : L2.St) (x y : V) (H2 : Hp) : Prop := ∃ (a C dx : Addr) (fs : List (Str × V)), x = .ref a ∧ H2 a = some (.ins C dx fs) ∧ Cls K C ∧ NoAttr K C f ∧ fs.length < 1000 ∧ D.nx σ (upd H2 a (.ins C dx (putF f y fs)))
theorem w_sfld {K : PySem.W.Frag} {f : Str} {D : Ends} {σ : L2.St} {H : Hp} {ta tv : TE} (k : tv σ H fun y H1 => ta σ H1 fun x H2 => SFldE K f D σ x y H2) : sFld K ta tv f D σ H := k
theorem w_sfldE {K : PySem.W.Frag} {f : Str} {D : Ends} {σ : L2.St} {y : V} {H : Hp} {a C dx : Addr} {fs : List (Str × V)} (h : H a = some (.ins C dx fs)) (c : Cls K C) (n : NoAttr K C f) (l : fs.length < 1000) (k : ∀ H', Kp a H H' → H' a = some (.ins C dx (putF f y fs)) → NX D σ H') : SFldE K f D σ (.ref a) y H :=
  ⟨a, C, dx, fs, rfl, h, c, n, l, k _ kp_upd upd_same⟩
/-! a dict's items -/
def DgE (Q : VK) (x y : V) (H2 : Hp) : Prop := ∃ a v, x = .ref a ∧ DGet H2 a y (some v) ∧ Q v H2
theorem w_dg {td ty : TE} {σ : L2.St} {H : Hp} {Q : VK} (k : td σ H fun x H1 => ty σ H1 fun y H2 => DgE Q x y H2) : tDGet td ty σ H Q := k
theorem w_dge {H : Hp} {Q : VK} {a : Addr} {s : Str} {v : V} {kvs : List (Key × V)} (h : H a = some (.dK kvs)) (e : valV kvs (.inr s) = some v) (k : Q v H) : DgE Q (.ref a) (.str s) H := ⟨a, v, rfl, .inl ⟨kvs, .inr s, .inl h, rfl, e.symm⟩, k⟩
def DpE (D : Ends) (σ : L2.St) (v x y : V) (H3 : Hp) : Prop := ∃ a H4, x = .ref a ∧ DPut H3 a y v H4 ∧ D.nx σ H4
theorem w_dp {td ty tv : TE} {D : Ends} {σ : L2.St} {H : Hp} (k : tv σ H fun v H1 => td σ H1 fun x H2 => ty σ H2 fun y H3 => DpE D σ v x y H3) : sDPut td ty tv D σ H := k
theorem w_dpe {D : Ends} {σ : L2.St} {H : Hp} {a : Addr} {s : Str} {v : V} {kvs : List (Key × V)} (h : H a = some (.dK kvs)) (l : kvs.length < sizeLine) (k : ∀ H', Kp a H H' → H' a = some (.dK (putK kvs (.inr s) v)) → NX D σ H') : DpE D σ v (.ref a) (.str s) H :=
  ⟨a, _, rfl, .inl ⟨kvs, .inr s, h, rfl, l, rfl⟩, k _ kp_upd upd_same⟩
theorem w_dnew {σ : L2.St} {H : Hp} {Q : VK} (k : ∀ p H', H p = none → Sm H H' → H' p = some (.dK []) → Q (.ref p) H') : tDNewK σ H Q := fun p hp => k p _ hp (sm_new hp) upd_same
def NiE (K : PySem.W.Frag) (w : World) (Q : VK) (y x : V) (H2 : Hp) : Prop := ∃ a z v, x = .ref a ∧ y = .str z ∧ (a == sysModules) = false ∧ KDct K w a z v ∧ Q (.bl false) H2
theorem w_ni {K : PySem.W.Frag} {w : World} {ty td : TE} {σ : L2.St} {H : Hp} {Q : VK} (k : ty σ H fun y H1 => td σ H1 fun x H2 => NiE K w Q y x H2) : tNiK K w ty td σ H Q := k
theorem w_nie {K : PySem.W.Frag} {w : World} {Q : VK} {H : Hp} {a : Addr} {z : Str} {ks : List Str} (d : KDs K w a ks) (hz : z ∈ ks) (k : Q (.bl false) H) : NiE K w Q (.str z) (.ref a) H := by
  obtain ⟨v, hv⟩ := d.2 z hz
  exact ⟨a, z, v, rfl, rfl, d.1, hv, k⟩
/-! an own object made -/
def MkE (C : Addr) (sp : Sp) (Q : VK) (E : XK) (vs : List V) (H1 : Hp) : Prop := ∀ x dx, H1 x = none → H1 dx = none → dx ≠ x → sp (.ref x :: (vs ++ [])) (upd (upd H1 dx (.own x)) x (.ins C dx [])) (fun v H2 => v = .non ∧ Q (.ref x) H2) E
theorem w_make {C : Addr} {sp : Sp} {σ : L2.St} {H : Hp} {Q : VK} {E : XK} {t : TA} (k : t σ H fun vs H1 => MkE C sp Q E vs H1) : tMake C sp [] E t σ H Q := k
/-! the last of a list taken, lists made longer -/
theorem w_bm0 {K : PySem.W.Frag} {T : String} {r : V → List V → Hp → VK → Prop} {to : TE} {σ : L2.St} {H : Hp} {Q : VK} (k : to σ H fun x H1 => tyV K T x H1 ∧ r x [] H1 Q) : tBM0 K T r to σ H Q := k
theorem w_pop {K : PySem.W.Frag} {H : Hp} {Q : VK} {l : Addr} {xs : List V} {y : V} (h : H l = some (.lst (xs ++ [y]))) (k : ∀ H', Kp l H H' → H' l = some (.lst xs) → Q y H') : tyV K "list" (.ref l) H ∧ rPop (.ref l) [] H Q := by
  refine ⟨ty_list h, l, _, y, rfl, rfl, h, ?_, k _ kp_upd ?_⟩
  · rw [List.length_append, List.getElem?_append_right (by show xs.length ≤ xs.length + 1 - 1; omega)]
    show [y][xs.length + 1 - 1 - xs.length]? = some y
    rw [show xs.length + 1 - 1 - xs.length = 0 by omega]
    rfl
  · rw [upd_same, List.dropLast_concat]
theorem w_ext {H : Hp} {Q : VK} {l b : Addr} {xs zs : List V} (h : H l = some (.lst xs)) (hb : H b = some (.lst zs)) (z : xs.length + zs.length ≤ sizeLine) (k : ∀ H', Kp l H H' → H' l = some (.lst (xs ++ zs)) → Q .non H') : rExtend (.ref l) [.ref b] H Q :=
  ⟨l, b, xs, zs, rfl, rfl, h, hb, z, k _ kp_upd upd_same⟩
local macro_rules | `(tactic| tm_at "rs") => `(tactic| first | with_reducible refine w_fld ?_ | with_reducible refine w_sfld ?_ | with_reducible refine w_dg ?_ | ((with_reducible refine' w_dge ?h ?e ?k); (case h => tm_at "rlk"); (case e => assumption)) | with_reducible refine w_dp ?_ | ((with_reducible refine' w_dpe ?h ?l (fun _ _ _ => ?k)); (case h => tm_at "rlk"); (case l => tm_at "rsz")) | with_reducible refine w_dnew (fun _ _ _ _ _ => ?_) | with_reducible refine w_ni ?_ | with_reducible refine w_make ?_ | with_reducible refine w_bm0 ?_ | ((with_reducible refine' w_pop ?h (fun _ _ _ => ?k)); (case h => tm_at "rlk")) | ((with_reducible refine' w_ext ?h ?i ?z (fun _ _ _ => ?k)); (case h => tm_at "rlk"); (case i => tm_at "rlk"); (case z => tm_at "rsz")) | fail "no")

/-! sayings: a word, two sides -/
def SayC (K : PySem.W.Frag) (C : Addr) : Prop := ClsN K "Saying" C ["word", "left", "right"]
def SayAt (K : PySem.W.Frag) (H : Hp) (v : V) (w : Str) (l r : V) : Prop := ∃ p C dx, v = .ref p ∧ SayC K C ∧ H p = some (.ins C dx [("word", .str w), ("left", l), ("right", r)])
theorem SayAt.sm {K : PySem.W.Frag} {H H' : Hp} {v l r : V} {w : Str} (h : SayAt K H v w l r) (e : Sm H H') : SayAt K H' v w l r := by
  obtain ⟨p, C, dx, rfl, c, q⟩ := h
  exact ⟨p, C, dx, rfl, c, e _ _ q⟩
theorem SayAt.kpL {K : PySem.W.Frag} {H H' : Hp} {v l r : V} {w : Str} {b : Addr} {ys : List V} (h : SayAt K H v w l r) (hb : H b = some (.lst ys)) (e : Kp b H H') : SayAt K H' v w l r := by
  obtain ⟨p, C, dx, rfl, c, q⟩ := h
  exact ⟨p, C, dx, rfl, c, e _ _ (by intro z; rw [z, hb] at q; cases q) q⟩
theorem w_fWord {K : PySem.W.Frag} {H : Hp} {Q : VK} {v l r : V} {w : Str} (h : SayAt K H v w l r) (k : Q (.str w) H) : FldE K "word" Q v H := by
  obtain ⟨p, C, dx, rfl, c, q⟩ := h
  exact ⟨p, C, dx, _, _, rfl, q, c.cl, c.na _ (by simp), rfl, k⟩
theorem w_fLeft {K : PySem.W.Frag} {H : Hp} {Q : VK} {v l r : V} {w : Str} (h : SayAt K H v w l r) (k : Q l H) : FldE K "left" Q v H := by
  obtain ⟨p, C, dx, rfl, c, q⟩ := h
  exact ⟨p, C, dx, _, _, rfl, q, c.cl, c.na _ (by simp), rfl, k⟩
theorem w_fRight {K : PySem.W.Frag} {H : Hp} {Q : VK} {v l r : V} {w : Str} (h : SayAt K H v w l r) (k : Q r H) : FldE K "right" Q v H := by
  obtain ⟨p, C, dx, rfl, c, q⟩ := h
  exact ⟨p, C, dx, _, _, rfl, q, c.cl, c.na _ (by simp), rfl, k⟩
local macro_rules | `(tactic| tm_at "rsay") => `(tactic| first | with_reducible assumption | ((refine' SayAt.sm ?sa ?sb); (case sb => with_reducible assumption); (case sa => tm_at "rsay")) | fail "no")
local macro_rules | `(tactic| tm_at "rs") => `(tactic| first | ((with_reducible refine' w_fWord ?h ?k); (case h => tm_at "rsay")) | ((with_reducible refine' w_fLeft ?h ?k); (case h => tm_at "rsay")) | ((with_reducible refine' w_fRight ?h ?k); (case h => tm_at "rsay")) | fail "no")

/-! a stack of terms to be worked off, the top first -/
def WkOk (kvs : List (Key × V)) (g : Str → Nat) (r : Nat) : List (Tm × Bool) → List Nat → Prop
  | [], N => N = [r]
  | (t, false) :: S, N => TmOk kvs g t ∧ WkOk kvs g r S (ev g t :: N)
  | (t, true) :: S, N => ∃ (w : Str) (a b : Tm) (x y : Nat) (M : List Nat), t = .op w a b ∧ N = y :: x :: M ∧ CmOk w x y ∧ WkOk kvs g r S (cm w x y :: M)
def wk : Tm × Bool → Nat
  | (t, false) => t.wt
  | (_, true) => 1
def wks (S : List (Tm × Bool)) : Nat := (S.map wk).sum
theorem wk_pos (s : Tm × Bool) : 1 ≤ wk s := by
  obtain ⟨t, b⟩ := s
  cases b
  · exact t.wt_pos
  · exact Nat.le_refl _
theorem wks_len : ∀ S : List (Tm × Bool), S.length ≤ wks S
  | [] => Nat.le_refl _
  | s :: S => by
    have h1 := wks_len S
    have h2 := wk_pos s
    show S.length + 1 ≤ wk s + wks S
    omega
theorem wks_cons (s : Tm × Bool) (S : List (Tm × Bool)) : wks (s :: S) = wk s + wks S := rfl
/-- what lies on the stack, the top last -/
def StAt (K : PySem.W.Frag) (H : Hp) (q : V) (s : Tm × Bool) : Prop := ∃ p x, q = .ref p ∧ H p = some (.tup [x, .bl s.2]) ∧ TmAt K H s.1 x
theorem StAt.imp {K : PySem.W.Frag} {H H' : Hp} {q : V} {s : Tm × Bool} (h : ∀ p xs, H p = some (.tup xs) → H' p = some (.tup xs)) (r : StAt K H q s) : StAt K H' q s := by
  obtain ⟨p, x, e, k, t⟩ := r
  exact ⟨p, x, e, h _ _ k, t.imp h⟩
theorem tup_kpL {H H' : Hp} {b : Addr} {ys : List V} (hb : H b = some (.lst ys)) (e : Kp b H H') : ∀ p xs, H p = some (.tup xs) → H' p = some (.tup xs) := fun p xs q => e _ _ (by
  intro z
  rw [z, hb] at q
  cases q) q
theorem tup_sm {H H' : Hp} (e : Sm H H') : ∀ p xs, H p = some (.tup xs) → H' p = some (.tup xs) := fun p xs q => e _ _ q

/-! texts: signs of them -/
theorem tl_len (z : Str) : z.cps.toList.length = z.length := Array.length_toList
theorem w_ixSF {K : PySem.W.Frag} {H : Hp} {Q : VK} {z : Str} {i : Int} (zl : z.length ≤ 1000) (h0 : 0 ≤ i) (h1 : i < (z.length : Int)) (k : ∀ c : Nat, z.cps.toList[i.toNat]? = some c → Q (.str ⟨#[c]⟩) H) : rIx K (.str z) (.int i) H Q := by
  obtain ⟨j, rfl⟩ := Int.eq_ofNat_of_zero_le h0
  have h2 : j < z.cps.toList.length := by rw [tl_len]; omega
  exact .inr (.inr ⟨z, j, _, rfl, rfl, sz_of (by omega), atI_nat (List.getElem?_eq_getElem h2), k _ (List.getElem?_eq_getElem h2)⟩)
def gInS : R2 := fun x y H Q => ∃ (c : Nat) (z : Str), x = .str ⟨#[c]⟩ ∧ y = .str z ∧ Q (.bl (decide (c ∈ z.cps.toList))) H
def gNotInS : R2 := fun x y H Q => ∃ (c : Nat) (z : Str), x = .str ⟨#[c]⟩ ∧ y = .str z ∧ Q (.bl (!decide (c ∈ z.cps.toList))) H
theorem op_gInS {X : Cx} : OpR X (compareOp .In) gInS := op_in_sign
theorem op_gNotInS {X : Cx} : OpR X (compareOp .NotIn) gNotInS := op_notIn_sign
theorem w_inS {H : Hp} {Q : VK} {c : Nat} {z : Str} (k : Q (.bl (decide (c ∈ z.cps.toList))) H) : gInS (.str ⟨#[c]⟩) (.str z) H Q := ⟨c, z, rfl, rfl, k⟩
theorem w_notInS {H : Hp} {Q : VK} {c : Nat} {z : Str} (k : Q (.bl (!decide (c ∈ z.cps.toList))) H) : gNotInS (.str ⟨#[c]⟩) (.str z) H Q := ⟨c, z, rfl, rfl, k⟩
def ItsE (R : It → Hp → Prop) (v : V) (H1 : Hp) : Prop := ∃ x, v = .str x ∧ R (Its x) H1
theorem w_iS {σ : L2.St} {H : Hp} {te : TE} {R : It → Hp → Prop} (k : te σ H fun v H1 => ItsE R v H1) : iStr te σ H R := k
theorem w_iSe {H : Hp} {R : It → Hp → Prop} {z : Str} (k : R (Its z) H) : ItsE R (.str z) H := ⟨z, rfl, k⟩
theorem lcS {σ : L2.St} {H : Hp} {Q : VK} {g : TG} {tt : TT} {te : TE} {vs : List Nat} {z : Str} (Pv : Addr → Nat → Hp → Prop) (h0 : ∀ D H', H D = none → Sm H H' → H' D = some (.lst []) → Pv D 0 H')
    (hs : ∀ D i c H', H D = none → z.cps.toList[i]? = some c → Pv D i H' → g (.str ⟨#[c]⟩) (wipe σ vs) H' fun σ2 H2 => LcGo vs σ σ2 (tt σ2 H2 fun b H3 => if b = true then te σ2 H3 fun y H4 => LcEnd D y (Pv D (i + 1)) H4 else Pv D (i + 1) H3))
    (hd : ∀ D H', H D = none → Pv D z.length H' → Q (.ref D) H') : LcL (Its z) g tt te vs σ H Q := fun D hD =>
  lc_it walk_str (Pv D) (h0 D _ hD (sm_new hD) upd_same) (fun _ _ _ _ => trivial) (fun i x H1 H' hi p y => by
    obtain ⟨rfl, c, hc, rfl⟩ := y
    exact hs D i c _ hD (by rw [Array.getElem?_toList]; exact hc) p) (fun H' p => hd D H' hD p)
theorem app_len (a b : Str) : (a ++ b).length = a.length + b.length := Array.size_append
def ChE (r' : R2) (tc : TE) (σ : L2.St) (Q : VK) (y z : V) (H3 : Hp) : Prop := ∃ k, z = .bl k ∧ (if k = true then tc σ H3 fun w' H4 => r' y w' H4 Q else Q (.bl false) H3)
theorem w_chain {r r' : R2} {ta tb tc : TE} {σ : L2.St} {H : Hp} {Q : VK} (k : ta σ H fun x H1 => tb σ H1 fun y H2 => r x y H2 fun z H3 => ChE r' tc σ Q y z H3) : tChain r r' ta tb tc σ H Q := k
theorem w_chE {r' : R2} {tc : TE} {σ : L2.St} {Q : VK} {y : V} {H3 : Hp} {p : Prop} [Decidable p] (a : p → tc σ H3 fun w' H4 => r' y w' H4 Q) (b : ¬ p → Q (.bl false) H3) : ChE r' tc σ Q y (.bl (decide p)) H3 := by
  refine ⟨_, rfl, ?_⟩
  by_cases h : p
  · rw [if_pos (decide_eq_true h)]; exact a h
  · rw [if_neg (by rw [decide_eq_false h]; decide)]; exact b h
def JoinE (K : PySem.W.Frag) (x y : V) (Q : VK) (H : Hp) : Prop := ∃ a p, ∃ ys : List Str, x = .str a ∧ [y] = [.ref p] ∧ (SqL K H p (ys.map V.str) ∨ SqT K H p (ys.map V.str)) ∧ (ys.map (·.length)).sum + ys.length * a.length ≤ 16777216 ∧ Q (.str (Txt.join a ys)) H
theorem w_join {K : PySem.W.Frag} {to te : TE} {σ : L2.St} {H : Hp} {Q : VK} (k : to σ H fun x H1 => (∃ a, x = .str a) ∧ te σ H1 fun y H2 => JoinE K x y Q H2) :
    tM1 (fun x xs H Q => ∃ a p, ∃ ys : List Str, x = .str a ∧ xs = [.ref p] ∧ (SqL K H p (ys.map V.str) ∨ SqT K H p (ys.map V.str)) ∧ (ys.map (·.length)).sum + ys.length * a.length ≤ 16777216 ∧ Q (.str (Txt.join a ys)) H) to te σ H Q := k
theorem w_isS {P : Prop} {s : Str} (k : P) : (∃ a, V.str s = .str a) ∧ P := ⟨⟨_, rfl⟩, k⟩
theorem sum_ones : ∀ ys : List Str, (∀ y ∈ ys, y.length = 1) → (ys.map (·.length)).sum = ys.length
  | [], _ => rfl
  | y :: ys, h => by
    rw [List.map_cons, List.sum_cons, List.length_cons, sum_ones ys (fun z hz => h z (List.mem_cons_of_mem _ hz)), h y List.mem_cons_self, Nat.add_comm]
theorem w_joinE {K : PySem.W.Frag} {H : Hp} {Q : VK} {p : Addr} {ys : List Str} (h : SqL K H p (ys.map V.str)) (h1 : ∀ y ∈ ys, y.length = 1) (hn : ys.length ≤ 10000) (k : Q (.str (Txt.join (Str.ofString "") ys)) H) : JoinE K (.str (Str.ofString "")) (.ref p) Q H := by
  refine ⟨_, p, ys, rfl, rfl, .inl h, ?_, k⟩
  rw [sum_ones ys h1, show (Str.ofString "").length = 0 from rfl, Nat.mul_zero]
  omega
theorem w_slS {H : Hp} {Q : VK} {z : Str} {lo hi : Option Int} (zl : z.length ≤ 10000) (k : (cutS z lo hi).length ≤ z.length → Q (.str (cutS z lo hi)) H) : rSlS (.str z) lo hi H Q := ⟨z, rfl, sz_of (by omega), k (cutS_length _ _ _)⟩
theorem sgn_len (c : Nat) : (⟨#[c]⟩ : Str).length = 1 := rfl
local macro_rules | `(tactic| tm_at "rs") => `(tactic| first | with_reducible refine w_join ?_ | with_reducible refine w_isS ?_ | ((with_reducible refine w_slS ?h (fun _ => ?_)); (case h => first | omega | (simp only [app_len, sgn_len]; omega))) | with_reducible refine w_chain ?_ | with_reducible refine w_chE (fun _ => ?_) (fun _ => ?_) | with_reducible refine w_inS ?_ | with_reducible refine w_notInS ?_ | with_reducible refine w_iS ?_ | with_reducible refine w_iSe ?_ | ((with_reducible refine w_ixSF ?h ?i ?j (fun _ _ => ?_)); (case h => first | omega | decide); (case i => omega); (case j => first | omega | decide)) | ((with_reducible refine w_lenS ?h ?_); (case h => first | (apply sz_of; omega) | exact sz_of (by decide) | (apply sz_of; simp only [app_len, sgn_len]; omega))) | ((with_reducible refine w_addS ?h ?_); (case h => first | (apply sz_of; omega) | (apply sz_of; simp only [app_len, sgn_len]; omega) | exact sz_of (by decide))) | fail "no")

/-! enumerate over a text -/
def ItSE (x : Str) : It :=
  ⟨fun i _ => i < x.cps.size, fun i H v H' => ∃ T c, v = .ref T ∧ H T = none ∧ H' = upd H T (.tup [.int (i : Nat), .str ⟨#[c]⟩]) ∧ x.cps[i]? = some c, fun i _ => x.cps.size = i⟩
theorem turn_SE {P : Program} {w : World} {K : PySem.W.Frag} {elts : List Expr} {kk : Nat} {tpos : Pos} (x : Str) (t : Tok) (e it : Addr) :
    Turn P w K (.Tuple elts kk tpos) (ItSE x) [e, it] e (fun i h => (∃ old, IsEnum h e it ((i : Nat) : Int) old) ∧ h.IsStrIter it (strIterType x) x t i ∧ e ≠ it) where
  mem := List.mem_cons_self
  obj := by
    rintro i h ⟨⟨old, he⟩, ⟨o, ho, hc, hd⟩, _⟩ b hb
    rcases (show b = e ∨ b = it by simpa using hb) with rfl | rfl
    · exact ⟨_, he, fun v q => nomatch q⟩
    · exact ⟨o, ho, fun v q => by rw [hd] at q; cases q⟩
  keep := by
    rintro i h h' ⟨⟨old, he⟩, ⟨o, ho, r⟩, ne⟩ k
    exact ⟨⟨old, k e (by simp) _ he⟩, ⟨o, k it (by simp) o ho, r⟩, ne⟩
  item := by
    intro X hP hw hK hc i pins s σ H E I hf st hg
    subst hP hw hK
    obtain ⟨⟨old, he⟩, hit, hne⟩ := st
    have hel : e < s.heap.objs.size := Heap.lt_size he
    have hil : it < s.heap.objs.size := by
      obtain ⟨_, q, _⟩ := hit
      exact Heap.lt_size q
    have hif : e ∉ [it] := by simpa using hne
    have D := Draws.text (prog := X.prog) (w := X.w) (A := X.A.in1) (I.ok.hd hc) it x t
    refine wpAny_pyNext_enum_itemD D he hit hg hne hif fun u h' tk hu ho hit' hT hsz hk => ?_
    obtain ⟨c, tc, hcx, rfl⟩ := hu
    refine ⟨_, rfl, wpAny_letOwnedTupleGo_enum (prog := X.prog) (w := X.w) (s := { s with heap := h', toks := tk + 1 }) ho fun h'' he' sb => ?_⟩
    have hT2 := (sb.2 _ (Nat.ne_of_gt hel)).trans hT
    have new : ObjOk X.prog X.w (upd H s.heap.objs.size (.tup [.int (i : Nat), .str ⟨#[c]⟩])) h'' s.heap.objs.size (.tup [.int (i : Nat), .str ⟨#[c]⟩]) :=
      ⟨by show 2 ≤ sizeLine; decide, [.int i tk, .str ⟨#[c]⟩ tc], .cons ⟨_, rfl⟩ (.cons ⟨_, rfl⟩ .nil), ⟨_, hT2, rfl, _, rfl⟩⟩
    have I1 := Inv.turnedNew (t' := tk + 1) I (ch := [e, it]) (fun b ob hb q => (sb.2 b (fun z => hb (by simp [z]))).trans (hk b ob (fun z => hb (by simp [z])) (fun z => hb (by simp [z])) q)) hf (Nat.le_refl _) new
    refine ⟨.ref s.heap.objs.size, _, I1, rfl, ⟨_, c, rfl, I.hok.fresh (Nat.le_refl _), rfl, hcx⟩, ⟨⟨.str ⟨#[c]⟩ tc, ?_⟩, ?_, hne⟩, fun b hb => ?_⟩
    · rw [show ((i + 1 : Nat) : Int) = (i : Int) + 1 from rfl]
      exact he'
    · obtain ⟨o, q, r⟩ := hit'
      exact ⟨o, (sb.2 it (Ne.symm hne)).trans q, r⟩
    · have hb' : b < s.heap.objs.size := by
        rcases (show b = e ∨ b = it by simpa using hb) with rfl | rfl
        · exact hel
        · exact hil
      rw [upd_ne (Nat.ne_of_lt hb')]
      exact (hf b hb).1
  done := by
    intro X hP hw hK hc i pins s σ H E I hf st hg
    subst hP hw hK
    obtain ⟨⟨old, he⟩, hit, hne⟩ := st
    have hg : x.cps.size = i := hg
    subst hg
    obtain ⟨f0, f1, f2, f3, f4, f5⟩ := hf it (by simp)
    have D := Draws.text (prog := X.prog) (w := X.w) (A := X.A.in1) (I.ok.hd hc) it x t
    exact wpAny_pyNext_enum_endD D he hit fun h' eb => ⟨rfl, I.turned (t' := s.toks) (fun b o hb q => eb b o hb q) f0 f1 f3 f4 f5⟩
  self := fun A i s Q E st h => by
    obtain ⟨⟨_, he⟩, _⟩ := st
    exact wpAny_pyIter_enum he h
def iSE (ta : TA) : TI := fun σ H R => ta σ H fun vs H1 => ∃ x, vs = [.str x] ∧ R (ItSE x) H1
theorem pi_SE {X : Cx} {e : Expr} {ta : TA} {p pos tpos : Pos} {elts : List Expr} {kk : Nat} (hg : Gl X "enumerate") (hm : X.mg "enumerate" = none) (ha : PA X [e] ta) (hs : starEach [e] X.env = [(false, eval e X.env)] := by rfl) :
    PI X (.Tuple elts kk tpos) (.Call (.Name "enumerate" p) [e] [] pos) (iSE ta) := by
  refine ⟨fun pins s σ H R I h => Call_ (ld_blt I hg hm boot_enumerate (PyProof.Rows.callWith_type1 (thn (ha.run pos pins s σ H _ I h) fun us s1 ⟨vs, H1, I1, r1, q1⟩ => ?_) hs rfl))⟩
  obtain ⟨x, rfl, q⟩ := q1
  obtain ⟨u, rfl, t, rfl⟩ := vals1 r1
  refine call_enumerate_str fun h' he hit hsz hk => wpAny_pyIter_enum he ?_
  have I2 : Inv X pins σ H1 { s1 with heap := h' } := Inv.kept (t' := s1.toks) I1 hk
  refine ⟨s1.heap.objs.size + 1, [s1.heap.objs.size + 1, s1.heap.objs.size], _, _, H1, rfl, I2, turn_SE x t (s1.heap.objs.size + 1) s1.heap.objs.size, ⟨⟨.none, he⟩, hit, Nat.succ_ne_self _⟩, fun b hb => ?_, q⟩
  have hle : s1.heap.objs.size ≤ b := by
    rcases (show b = s1.heap.objs.size + 1 ∨ b = s1.heap.objs.size by simpa using hb) with rfl | rfl
    · exact Nat.le_add_right _ _
    · exact Nat.le_refl _
  exact I1.fpOk hle (I1.hok.fresh hle)
theorem walk_SE {z : Str} : Walk (ItSE z) z.cps.size (fun _ => True) (fun i H v H' => ∃ T c, v = .ref T ∧ H T = none ∧ H' = upd H T (.tup [.int (i : Nat), .str ⟨#[c]⟩]) ∧ z.cps[i]? = some c) :=
  ⟨fun _ _ hi _ => hi, fun _ _ => rfl, fun _ _ _ _ _ _ y => y⟩
def SEe (R : It → Hp → Prop) (vs : List V) (H1 : Hp) : Prop := ∃ x, vs = [.str x] ∧ R (ItSE x) H1
theorem w_iSE {σ : L2.St} {H : Hp} {ta : TA} {R : It → Hp → Prop} (k : ta σ H fun vs H1 => SEe R vs H1) : iSE ta σ H R := k
theorem w_iSEe {H : Hp} {R : It → Hp → Prop} {x : Str} (k : R (ItSE x) H) : SEe R [.str x] H := ⟨x, rfl, k⟩
theorem loopSE {σ : L2.St} {H : Hp} {D : Ends} {g : TG} {tb : TS} {z : Str} (Pv : Nat → L2.St → Hp → Prop) (h0 : Pv 0 σ H)
    (hs : ∀ i c T σ H H', i < z.cps.size → z.cps.toList[i]? = some c → Pv i σ H → H T = none → Sm H H' → H' T = some (.tup [.int (i : Nat), .str ⟨#[c]⟩]) → g (.ref T) σ H' fun σ2 H2 => tb (En (Pv (i + 1)) (RT D) (NX D) (Pv (i + 1))) σ2 H2)
    (hd : ∀ σ H, Pv z.cps.size σ H → NX D σ H) : Loop (ItSE z) g tb D σ H :=
  for_it walk_SE Pv h0 (fun _ _ _ _ _ => trivial) (fun i x σ H H' hi p y => by
    obtain ⟨T, c, rfl, hT, rfl, hc⟩ := y
    exact hs i c T σ H _ hi (by rw [Array.getElem?_toList]; exact hc) p hT (sm_new hT) upd_same) hd
/-- what is never reached -/
theorem ps_never {X : Cx} {st : Stmt} : PS X st (fun _ _ _ => False) := ⟨fun _ _ _ _ _ _ h => h.elim⟩
local macro_rules | `(tactic| tm_at "rs") => `(tactic| first | with_reducible refine w_iSE ?_ | with_reducible refine w_iSEe ?_ | fail "no")

/-! enumerate over a list -/
def EnE (K : PySem.W.Frag) (R : It → Hp → Prop) (vs : List V) (H1 : Hp) : Prop := ∃ a xs, vs = [.ref a] ∧ SqL K H1 a xs ∧ R (Ite K a) H1
theorem w_iEn {K : PySem.W.Frag} {σ : L2.St} {H : Hp} {ta : TA} {R : It → Hp → Prop} (k : ta σ H fun vs H1 => EnE K R vs H1) : iEnum K ta σ H R := k
theorem w_iEne {K : PySem.W.Frag} {H : Hp} {R : It → Hp → Prop} {a : Addr} {xs : List V} (h : SqL K H a xs) (k : R (Ite K a) H) : EnE K R [.ref a] H := ⟨a, xs, rfl, h, k⟩
theorem loopEn {σ : L2.St} {H : Hp} {D : Ends} {K : PySem.W.Frag} {g : TG} {tb : TS} {a : Addr} {xs : List V} (Pv : Nat → L2.St → Hp → Prop) (h0 : Pv 0 σ H) (hl : ∀ i σ H, i ≤ xs.length → Pv i σ H → SqL K H a xs)
    (hs : ∀ i x T σ H H', i < xs.length → xs[i]? = some x → Pv i σ H → H T = none → Sm H H' → H' T = some (.tup [.int (i : Nat), x]) → g (.ref T) σ H' fun σ2 H2 => tb (En (Pv (i + 1)) (RT D) (NX D) (Pv (i + 1))) σ2 H2)
    (hd : ∀ σ H, Pv xs.length σ H → NX D σ H) : Loop (Ite K a) g tb D σ H :=
  for_it walk_enum Pv h0 hl (fun i x σ H H' hi p y => by
    obtain ⟨T, u, v, rfl, hT, rfl, h1, h2⟩ := y
    cases h1
    exact hs i v T σ H _ hi h2 p hT (sm_new hT) upd_same) hd
theorem lcEn {σ : L2.St} {H : Hp} {Q : VK} {K : PySem.W.Frag} {g : TG} {tt : TT} {te : TE} {vs : List Nat} {a : Addr} {xs : List V} (Pv : Addr → Nat → Hp → Prop) (h0 : ∀ D H', H D = none → Sm H H' → H' D = some (.lst []) → Pv D 0 H')
    (hl : ∀ D i H', H D = none → i ≤ xs.length → Pv D i H' → SqL K H' a xs)
    (hs : ∀ D i x T H1 H', H D = none → i < xs.length → xs[i]? = some x → Pv D i H1 → H1 T = none → Sm H1 H' → H' T = some (.tup [.int (i : Nat), x]) → g (.ref T) (wipe σ vs) H' fun σ2 H2 => LcGo vs σ σ2 (tt σ2 H2 fun b H3 => if b = true then te σ2 H3 fun y H4 => LcEnd D y (Pv D (i + 1)) H4 else Pv D (i + 1) H3))
    (hd : ∀ D H', H D = none → Pv D xs.length H' → Q (.ref D) H') : LcL (Ite K a) g tt te vs σ H Q := fun D hD =>
  lc_it walk_enum (Pv D) (h0 D _ hD (sm_new hD) upd_same) (fun i H' hi p => hl D i H' hD hi p) (fun i x H1 H' hi p y => by
    obtain ⟨T, u, v, rfl, hT, rfl, h1, h2⟩ := y
    cases h1
    exact hs D i v T H1 _ hD hi h2 p hT (sm_new hT) upd_same) (fun H' p => hd D H' hD p)
local macro_rules | `(tactic| tm_at "rs") => `(tactic| first | with_reducible refine w_iEn ?_ | ((with_reducible refine' w_iEne ?h ?k); (case h => tm_at "rsq")) | fail "no")

/-! sayings of the word same, terms summed -/
def SayT (K : PySem.W.Frag) (H : Hp) (v : V) (ab : Tm × Tm) : Prop := ∃ l r, SayAt K H v "same" l r ∧ TmAt K H ab.1 l ∧ TmAt K H ab.2 r
theorem SayT.sm {K : PySem.W.Frag} {H H' : Hp} {v : V} {ab : Tm × Tm} (h : SayT K H v ab) (e : Sm H H') : SayT K H' v ab := by
  obtain ⟨l, r, a, b, c⟩ := h
  exact ⟨l, r, a.sm e, b.sm e, c.sm e⟩
def TmsAt (K : PySem.W.Frag) (H : Hp) (vs : List V) (ts : List Tm) : Prop := Paired (fun v t => TmAt K H t v) vs ts
theorem TmsAt.sm {K : PySem.W.Frag} {H H' : Hp} {vs : List V} {ts : List Tm} (h : TmsAt K H vs ts) (e : Sm H H') : TmsAt K H' vs ts := paired_mono (fun _ _ q => q.sm e) h
theorem TmsAt.kpL {K : PySem.W.Frag} {H H' : Hp} {vs : List V} {ts : List Tm} {b : Addr} {ys : List V} (h : TmsAt K H vs ts) (hb : H b = some (.lst ys)) (e : Kp b H H') : TmsAt K H' vs ts := paired_mono (fun _ _ q => q.kpL hb e) h
theorem TmsAt.add {K : PySem.W.Frag} {H : Hp} {vs : List V} {ts : List Tm} {v : V} {t : Tm} (h : TmsAt K H vs ts) (e : TmAt K H t v) : TmsAt K H (vs ++ [v]) (ts ++ [t]) := paired_app h (.cons e .nil)
def sumT : List Tm → Tm
  | [] => .num 0
  | t :: ts => ts.foldl (fun a b => .op "plus" a b) t
theorem sumT_one (t : Tm) : sumT [t] = t := rfl
theorem sumT_add {ts : List Tm} {t : Tm} (h : ts ≠ []) : sumT (ts ++ [t]) = .op "plus" (sumT ts) t := by
  cases ts with
  | nil => exact absurd rfl h
  | cons a as =>
    show (as ++ [t]).foldl _ a = _
    rw [List.foldl_append]
    rfl
def sqT (ab : Tm × Tm) : Tm := .op "plus" (.op "times" ab.1 ab.1) (.op "times" ab.2 ab.2)
def prT (ab : Tm × Tm) : Tm := .op "times" (.num 2) (.op "times" ab.1 ab.2)

/-! a walk over a list or a tuple -/
theorem pi_or {X : Cx} {tg l : Expr} {t1 t2 : TI} (h1 : PI X tg l t1) (h2 : PI X tg l t2) : PI X tg l (fun σ H R => t1 σ H R ∨ t2 σ H R) := ⟨fun pins s σ H R I h => h.elim (fun h => h1.run pins s σ H R I h) (fun h => h2.run pins s σ H R I h)⟩

/-! enumerate over a tuple -/
section
open AutoSeq1 (wpAny_loadPart')
theorem meets_enumT (l : Addr) (items : Array Value) (n : Nat) (dct : Option Addr) (sl : Array (Option Value)) :
    Meets (Builtin.«enumerate.__new__» ⟨[.type "enumerate", .ref l], []⟩) (fun _ R s => s.heap.get? l = some { cls := .type "tuple", dict := dct, data := .seq items n, slots := sl } ∧
      R (.ok (.ret (.ref (s.heap.push { cls := .type "tuple_iterator", data := .fields #[.ref l, .int 0 0] }).objs.size)))
        { s with heap := (s.heap.push { cls := .type "tuple_iterator", data := .fields #[.ref l, .int 0 0] }).push { cls := .type "enumerate", data := .fields #[.none, .bool false, .ref s.heap.objs.size, rawInt 0, .none, .none] } }) :=
  .of_wp fun prog w A R s h => by
    obtain ⟨hp, g, d, tk, os⟩ := s; obtain ⟨hl, h⟩ := h
    have hsub := sub_enumerate
    have hL : Heap.IsTuple (Shared.heap ⟨hp, g, d, tk, os⟩) l items := ⟨_, hl, rfl, n, rfl⟩
    wp_walk using wpAny_loadPart' hl
    refine wpAny_stack_any fun st => PySem.wpAny_pure ?_
    split
    · rename_i c _ _ _ _ _
      cases (c == Value.type "enumerate")
      · wp_walk using wpAny_loadPart' hl, wpAny_pyIter_tuple hL
        exact ⟨_, rfl, h⟩
      · wp_walk using wpAny_loadPart' hl, wpAny_pyIter_tuple hL
        exact ⟨_, rfl, h⟩
    · wp_walk using wpAny_loadPart' hl, wpAny_pyIter_tuple hL
      exact ⟨_, rfl, h⟩
end
section
variable {prog : Program} {w : World} {A : Around} {E : Value → Shared → Prop} {s : Shared}
theorem call_enumT {l : Addr} {items : Array Value} {Q : Value → Shared → Prop} (hL : s.heap.IsTuple l items)
    (h : ∀ h', IsEnum h' (s.heap.objs.size + 1) s.heap.objs.size 0 .none → h'.IsTupleIter s.heap.objs.size l 0 → h'.objs.size = s.heap.objs.size + 2 →
      (∀ b o, s.heap.get? b = some o → h'.get? b = some o) → Q (.ref (s.heap.objs.size + 1)) { s with heap := h' }) :
    wpAny (model prog w) A (call (.type "enumerate") [.ref l]) Q E s := by
  obtain ⟨⟨c, dct, dt, sl⟩, hl, hc, n, hd⟩ := hL
  replace hc : c = .type "tuple" := hc
  replace hd : dt = .seq items n := hd
  subst hc hd
  refine callType_new PySem.F.called_enumerate (by decide) (PySem.F.typeCall_enumerate_1 _) (PySem.F.newCall_enumerate_1 _) (fun obj => PySem.F.args_object_init_2 obj _) PySem.F.entry_enumerate_new
    (meets_enumT l items n dct sl) ⟨hl, ?_⟩
  have hz : (s.heap.push { cls := .type "tuple_iterator", data := .fields #[.ref l, .int 0 0] }).objs.size = s.heap.objs.size + 1 := Heap.size_push ..
  show _ ∧ _
  rw [hz]
  have he : IsEnum ((s.heap.push { cls := .type "tuple_iterator", data := .fields #[.ref l, .int 0 0] }).push
      { cls := .type "enumerate", data := .fields #[.none, .bool false, .ref s.heap.objs.size, rawInt 0, .none, .none] }) (s.heap.objs.size + 1) s.heap.objs.size 0 .none := by
    have := Heap.get?_push_size (s.heap.push { cls := .type "tuple_iterator", data := .fields #[.ref l, .int 0 0] })
      (o := { cls := .type "enumerate", data := .fields #[.none, .bool false, .ref s.heap.objs.size, rawInt 0, .none, .none] }) rfl
    rw [hz] at this; exact this
  refine ⟨⟨_, he, rfl⟩, h _ he ⟨_, Heap.get?_push_of_some _ (Heap.get?_push_size _ rfl), rfl, rfl⟩ (by rw [Heap.size_push, hz]) fun b o x => Heap.get?_push_of_some _ (Heap.get?_push_of_some _ x)⟩
end
section
variable {prog : Program} {w : World} {A : Around} {E : Value → Shared → Prop} {s : Shared}
theorem wpAny_pyNext_enum_endT {e it l : Addr} {i : Nat} {items : Array Value} {old : Value} {Q : Option Value → Shared → Prop} (hh : A.handled = none)
    (he : IsEnum s.heap e it i old) (hit : s.heap.IsTupleIter it l i) (hl : s.heap.IsTuple l items) (hx : items[i]? = none)
    (hQ : ∀ h', Heap.ExtBut it s.heap h' → Q none { s with heap := h' }) : wpAny (model prog w) A (pyNext (.ref e)) Q E s := by
  have hT : s.TypeIs (.ref e) "enumerate" := ⟨_, he, rfl⟩
  unfold pyNext
  refine PySem.wpAny_bind (wpAny_attempt (wpAny_callSpecial?_slot (name := Str.ofString "__next__") hT PySem.F.slot_enumerate_next
    (wpAny_call_entry PySem.F.slot_enumerate_next hT PySem.F.entry_enumerate_next ?_ (PySem.F.args_enumerate_next_1 _))))
  show wpAny _ _ (field (.ref e) 2 >>= _) _ _ _
  refine PySem.wpAny_bind (wpAny_field he rfl (x := .ref it) rfl ?_)
  refine PySem.wpAny_bind (_root_.RZ.nextOf_tuple_end hh hit hl hx fun h' x he' hx' => ?_)
  obtain ⟨o, ho, hc⟩ := hx'
  refine PySem.wpAny_bind (wpAny_isInstance (T := "StopIteration") (b := true) ⟨o, ho, hc⟩ isSubtype_stop ?_)
  exact PySem.wpAny_pure (hQ _ he')
end
def ItTE (K : PySem.W.Frag) (a : Addr) : It :=
  ⟨fun i H => ∃ (xs : List V) (x : V), SqT K H a xs ∧ xs[i]? = some x, fun i H v H' => ∃ T x, v = .ref T ∧ H T = none ∧ H' = upd H T (.tup [.int (i : Nat), x]) ∧ ∀ xs, SqT K H a xs → xs[i]? = some x, fun i H => ∃ xs : List V, SqT K H a xs ∧ xs.length ≤ i⟩
theorem turn_TE {P : Program} {w : World} {K : PySem.W.Frag} {elts : List Expr} {kk : Nat} {tpos : Pos} (a e it : Addr) :
    Turn P w K (.Tuple elts kk tpos) (ItTE K a) [e, it] e (fun i h => (∃ old, IsEnum h e it ((i : Nat) : Int) old) ∧ h.IsTupleIter it a i ∧ e ≠ it ∧ e ≠ a ∧ a ≠ it) where
  mem := List.mem_cons_self
  obj := by
    rintro i h ⟨⟨old, he⟩, ⟨o, ho, hc, hd⟩, _⟩ b hb
    rcases (show b = e ∨ b = it by simpa using hb) with rfl | rfl
    · exact ⟨_, he, fun v q => nomatch q⟩
    · exact ⟨o, ho, fun v q => by rw [hd] at q; cases q⟩
  keep := by
    rintro i h h' ⟨⟨old, he⟩, ⟨o, ho, r⟩, ne⟩ k
    exact ⟨⟨old, k e (by simp) _ he⟩, ⟨o, k it (by simp) o ho, r⟩, ne⟩
  item := by
    intro X hP hw hK hc i pins s σ H E I hf st hg
    subst hP hw hK
    obtain ⟨⟨old, he⟩, hit, hne, hea, hai⟩ := st
    obtain ⟨xs, x, hq, hx⟩ := hg
    obtain ⟨its, rv, p, _⟩ := I.tuple hq
    obtain ⟨u, hu, ru⟩ := rv.get hx
    have hlen : i < its.length := (List.getElem?_eq_some_iff.mp hu).1
    have hel : e < s.heap.objs.size := Heap.lt_size he
    have hil : it < s.heap.objs.size := by
      obtain ⟨_, q, _⟩ := hit
      exact Heap.lt_size q
    have hef : e ∉ [it, a] := by simp [hne, hea]
    have D := Draws.tuple (prog := X.prog) (w := X.w) (A := X.A.in1) (I.ok.hd hc) it a hai its.toArray
    refine wpAny_pyNext_enum_itemD D he ⟨hit, p⟩ (by simpa using hlen) hne hef fun v h' tk hv ho hit' hT hsz hk => ?_
    have hvu : v = u := by
      have hv : its.toArray[i]? = some v := hv
      rw [show its.toArray[i]? = some u by simpa using hu] at hv
      exact (Option.some.inj hv).symm
    subst hvu
    refine ⟨_, rfl, wpAny_letOwnedTupleGo_enum (prog := X.prog) (w := X.w) (s := { s with heap := h', toks := tk + 1 }) ho fun h'' he' sb => ?_⟩
    have hT2 := (sb.2 _ (Nat.ne_of_gt hel)).trans hT
    have new : ObjOk X.prog X.w (upd H s.heap.objs.size (.tup [.int (i : Nat), x])) h'' s.heap.objs.size (.tup [.int (i : Nat), x]) :=
      ⟨by show 2 ≤ sizeLine; decide, [.int i tk, v], .cons ⟨_, rfl⟩ (.cons ru .nil), ⟨_, hT2, rfl, _, rfl⟩⟩
    have I1 := Inv.turnedNew (t' := tk + 1) I (ch := [e, it]) (fun b ob hb q => (sb.2 b (fun z => hb (by simp [z]))).trans (hk b ob (fun z => hb (by simp [z])) (fun z => hb (by simp [z])) q)) hf (Nat.le_refl _) new
    refine ⟨.ref s.heap.objs.size, _, I1, rfl, ⟨_, x, rfl, I.hok.fresh (Nat.le_refl _), rfl, fun ys hy => by rw [I.tuple_inj hy hq]; exact hx⟩, ⟨⟨v, ?_⟩, ?_, hne, hea, hai⟩, fun b hb => ?_⟩
    · rw [show ((i + 1 : Nat) : Int) = (i : Int) + 1 from rfl]
      exact he'
    · obtain ⟨o, q, r⟩ := hit'.1
      exact ⟨o, (sb.2 it (Ne.symm hne)).trans q, r⟩
    · have hb' : b < s.heap.objs.size := by
        rcases (show b = e ∨ b = it by simpa using hb) with rfl | rfl
        · exact hel
        · exact hil
      rw [upd_ne (Nat.ne_of_lt hb')]
      exact (hf b hb).1
  done := by
    intro X hP hw hK hc i pins s σ H E I hf st hg
    subst hP hw hK
    obtain ⟨⟨old, he⟩, hit, hne, hea, hai⟩ := st
    obtain ⟨xs, hq, hx⟩ := hg
    obtain ⟨its, rv, p, _⟩ := I.tuple hq
    have hl := rv.length
    obtain ⟨f0, f1, f2, f3, f4, f5⟩ := hf it (by simp)
    refine wpAny_pyNext_enum_endT (I.ok.hd hc) he hit p (by simp; omega) fun h' eb => ⟨rfl, I.turned (t' := s.toks) (fun b o hb q => eb b o hb q) f0 f1 f3 f4 f5⟩
  self := fun A i s Q E st h => by
    obtain ⟨⟨_, he⟩, _⟩ := st
    exact wpAny_pyIter_enum he h
def iEnT (K : PySem.W.Frag) (ta : TA) : TI := fun σ H R => ta σ H fun vs H1 => ∃ a xs, vs = [.ref a] ∧ SqT K H1 a xs ∧ R (ItTE K a) H1
theorem pi_enT {X : Cx} {e : Expr} {ta : TA} {p pos tpos : Pos} {elts : List Expr} {kk : Nat} (hg : Gl X "enumerate") (hm : X.mg "enumerate" = none) (ha : PA X [e] ta) (hs : starEach [e] X.env = [(false, eval e X.env)] := by rfl) :
    PI X (.Tuple elts kk tpos) (.Call (.Name "enumerate" p) [e] [] pos) (iEnT X.K ta) := by
  refine ⟨fun pins s σ H R I h => Call_ (ld_blt I hg hm boot_enumerate (PyProof.Rows.callWith_type1 (thn (ha.run pos pins s σ H _ I h) fun us s1 ⟨vs, H1, I1, r1, q1⟩ => ?_) hs rfl))⟩
  obtain ⟨a, xs, rfl, hq, q⟩ := q1
  obtain ⟨u, rfl, ru⟩ := vals1 r1
  obtain rfl : u = Value.ref a := ru
  obtain ⟨its, rv, p1, _⟩ := I1.tuple hq
  obtain ⟨o1, ho1, _⟩ := id p1
  have hal : a < s1.heap.objs.size := Heap.lt_size ho1
  refine call_enumT (items := its.toArray) p1 fun h' he hit hsz hk => wpAny_pyIter_enum he ?_
  have I2 : Inv X pins σ H1 { s1 with heap := h' } := Inv.kept (t' := s1.toks) I1 hk
  refine ⟨s1.heap.objs.size + 1, [s1.heap.objs.size + 1, s1.heap.objs.size], _, _, H1, rfl, I2, turn_TE a (s1.heap.objs.size + 1) s1.heap.objs.size, ⟨⟨.none, he⟩, hit, Nat.succ_ne_self _, Nat.ne_of_gt (Nat.lt_succ_of_lt hal), Nat.ne_of_lt hal⟩, fun b hb => ?_, q⟩
  have hle : s1.heap.objs.size ≤ b := by
    rcases (show b = s1.heap.objs.size + 1 ∨ b = s1.heap.objs.size by simpa using hb) with rfl | rfl
    · exact Nat.le_add_right _ _
    · exact Nat.le_refl _
  exact I1.fpOk hle (I1.hok.fresh hle)
theorem walk_TE {K : PySem.W.Frag} {a : Addr} {xs : List V} : Walk (ItTE K a) xs.length (fun H => SqT K H a xs) (YPair (fun i => some (.int (i : Nat))) (fun i => xs[i]?)) :=
  ⟨fun i H hi h => ⟨xs, _, h, List.getElem?_eq_getElem hi⟩, fun H h => ⟨xs, h, Nat.le_refl _⟩, fun i H v H' hi h y => by
    obtain ⟨T, x, e1, e2, e3, e4⟩ := y
    exact ⟨T, _, x, e1, e2, e3, rfl, e4 xs h⟩⟩
def EtE (K : PySem.W.Frag) (R : It → Hp → Prop) (vs : List V) (H1 : Hp) : Prop := ∃ a xs, vs = [.ref a] ∧ SqT K H1 a xs ∧ R (ItTE K a) H1
theorem w_iEt {K : PySem.W.Frag} {σ : L2.St} {H : Hp} {ta : TA} {R : It → Hp → Prop} (k : ta σ H fun vs H1 => EtE K R vs H1) : iEnT K ta σ H R := k
theorem w_iEte {K : PySem.W.Frag} {H : Hp} {R : It → Hp → Prop} {a : Addr} {xs : List V} (h : SqT K H a xs) (k : R (ItTE K a) H) : EtE K R [.ref a] H := ⟨a, xs, rfl, h, k⟩
theorem loopEt {σ : L2.St} {H : Hp} {D : Ends} {K : PySem.W.Frag} {g : TG} {tb : TS} {a : Addr} {xs : List V} (Pv : Nat → L2.St → Hp → Prop) (h0 : Pv 0 σ H) (hl : ∀ i σ H, i ≤ xs.length → Pv i σ H → SqT K H a xs)
    (hs : ∀ i x T σ H H', i < xs.length → xs[i]? = some x → Pv i σ H → H T = none → Sm H H' → H' T = some (.tup [.int (i : Nat), x]) → g (.ref T) σ H' fun σ2 H2 => tb (En (Pv (i + 1)) (RT D) (NX D) (Pv (i + 1))) σ2 H2)
    (hd : ∀ σ H, Pv xs.length σ H → NX D σ H) : Loop (ItTE K a) g tb D σ H :=
  for_it walk_TE Pv h0 hl (fun i x σ H H' hi p y => by
    obtain ⟨T, u, v, rfl, hT, rfl, h1, h2⟩ := y
    cases h1
    exact hs i v T σ H _ hi h2 p hT (sm_new hT) upd_same) hd
theorem lcEt {σ : L2.St} {H : Hp} {Q : VK} {K : PySem.W.Frag} {g : TG} {tt : TT} {te : TE} {vs : List Nat} {a : Addr} {xs : List V} (Pv : Addr → Nat → Hp → Prop) (h0 : ∀ D H', H D = none → Sm H H' → H' D = some (.lst []) → Pv D 0 H')
    (hl : ∀ D i H', H D = none → i ≤ xs.length → Pv D i H' → SqT K H' a xs)
    (hs : ∀ D i x T H1 H', H D = none → i < xs.length → xs[i]? = some x → Pv D i H1 → H1 T = none → Sm H1 H' → H' T = some (.tup [.int (i : Nat), x]) → g (.ref T) (wipe σ vs) H' fun σ2 H2 => LcGo vs σ σ2 (tt σ2 H2 fun b H3 => if b = true then te σ2 H3 fun y H4 => LcEnd D y (Pv D (i + 1)) H4 else Pv D (i + 1) H3))
    (hd : ∀ D H', H D = none → Pv D xs.length H' → Q (.ref D) H') : LcL (ItTE K a) g tt te vs σ H Q := fun D hD =>
  lc_it walk_TE (Pv D) (h0 D _ hD (sm_new hD) upd_same) (fun i H' hi p => hl D i H' hD hi p) (fun i x H1 H' hi p y => by
    obtain ⟨T, u, v, rfl, hT, rfl, h1, h2⟩ := y
    cases h1
    exact hs D i v T H1 _ hD hi h2 p hT (sm_new hT) upd_same) (fun H' p => hd D H' hD p)
local macro_rules | `(tactic| tm_at "rs") => `(tactic| first | with_reducible refine w_iEt ?_ | ((with_reducible refine' w_iEte ?h ?k); (case h => tm_at "rst")) | fail "no")

/-! a number divided so often -/
def dvs (n b : Int) : Nat → Int
  | 0 => n
  | k + 1 => dvs n b k / b

/-! choosing numbers -/
def ch : Nat → Nat → Nat
  | _, 0 => 1
  | 0, _ + 1 => 0
  | n + 1, k + 1 => ch n k + ch n (k + 1)
theorem ch_zero (n : Nat) : ch n 0 = 1 := by cases n <;> rfl
theorem ch_succ (n k : Nat) : ch (n + 1) (k + 1) = ch n k + ch n (k + 1) := rfl
theorem ch_gt : ∀ (n k : Nat), n < k → ch n k = 0
  | 0, k + 1, _ => rfl
  | n + 1, k + 1, h => by rw [ch_succ, ch_gt n k (by omega), ch_gt n (k + 1) (by omega)]
theorem ch_self : ∀ n : Nat, ch n n = 1
  | 0 => rfl
  | n + 1 => by rw [ch_succ, ch_self n, ch_gt n (n + 1) (by omega)]
/-- (k + 1) C(n + 1, k + 1) = (n + 1) C(n, k) -/
theorem ch_mul : ∀ (n k : Nat), (k + 1) * ch (n + 1) (k + 1) = (n + 1) * ch n k
  | 0, 0 => rfl
  | 0, k + 1 => by rw [ch_succ, show ch 0 (k + 1) = 0 from rfl, show ch 0 (k + 1 + 1) = 0 from rfl]; omega
  | n + 1, 0 => by
    have h := ch_mul n 0
    rw [ch_zero] at h
    rw [ch_succ (n + 1) 0, ch_zero]
    omega
  | n + 1, k + 1 => by
    have h1 := ch_mul n k
    have h2 := ch_mul n (k + 1)
    have e1 := ch_succ (n + 1) (k + 1)
    have e2 := ch_succ n k
    rw [e1, Nat.mul_add, h2, show (k + 1 + 1) * ch (n + 1) (k + 1) = (k + 1) * ch (n + 1) (k + 1) + ch (n + 1) (k + 1) by rw [Nat.add_mul (k + 1) 1, Nat.one_mul], h1]
    rw [show (n + 1 + 1) * ch (n + 1) (k + 1) = (n + 1) * ch (n + 1) (k + 1) + ch (n + 1) (k + 1) by rw [Nat.add_mul (n + 1) 1, Nat.one_mul], e2, Nat.mul_add]
    omega
/-- (k + 1) C(n, k + 1) = (n - k) C(n, k) -/
theorem ch_next {n k : Nat} (h : k ≤ n) : (k + 1) * ch n (k + 1) = (n - k) * ch n k := by
  have h1 := ch_mul n k
  rw [ch_succ, Nat.mul_add] at h1
  have h2 : (n + 1) * ch n k = (k + 1) * ch n k + (n - k) * ch n k := by
    rw [← Nat.add_mul]
    congr 1
    omega
  omega
theorem ch_symm : ∀ (n k : Nat), k ≤ n → ch n k = ch n (n - k)
  | 0, 0, _ => rfl
  | n + 1, 0, _ => by rw [ch_zero, Nat.sub_zero, ch_self]
  | n + 1, k + 1, h => by
    by_cases hk : k = n
    · subst hk
      rw [ch_self, Nat.sub_self, ch_zero]
    · have e : n + 1 - (k + 1) = (n - (k + 1)) + 1 := by omega
      rw [e, ch_succ, ch_succ, ch_symm n k (by omega), ch_symm n (k + 1) (by omega), show n - k = n - (k + 1) + 1 by omega]
      omega
theorem ch_pos : ∀ (n k : Nat), k ≤ n → 0 < ch n k
  | _, 0, _ => by rw [ch_zero]; decide
  | n + 1, k + 1, h => by rw [ch_succ]; have := ch_pos n k (by omega); omega
/-- the product of j numbers from n down -/
def desc (n : Nat) : Nat → Nat
  | 0 => 1
  | j + 1 => desc n j * (n - j)
def fac : Nat → Nat
  | 0 => 1
  | j + 1 => fac j * (j + 1)
theorem fac_pos : ∀ j, 0 < fac j
  | 0 => by decide
  | j + 1 => Nat.mul_pos (fac_pos j) (by omega)
theorem fac_mono {i j : Nat} (h : i ≤ j) : fac i ≤ fac j := by
  induction h with
  | refl => exact Nat.le_refl _
  | step h ih => exact Nat.le_trans ih (Nat.le_mul_of_pos_right _ (by omega))
theorem desc_ch (n : Nat) : ∀ j, j ≤ n → desc n j = ch n j * fac j
  | 0, _ => by rw [ch_zero]; rfl
  | j + 1, h => by
    show desc n j * (n - j) = ch n (j + 1) * (fac j * (j + 1))
    rw [desc_ch n j (by omega)]
    have h1 := ch_next (n := n) (k := j) (by omega)
    rw [Nat.mul_right_comm, Nat.mul_comm (ch n j) (n - j), ← h1, Nat.mul_comm (j + 1) (ch n (j + 1)), Nat.mul_assoc, Nat.mul_comm (j + 1) (fac j)]
theorem ch_div (n j : Nat) (h : j ≤ n) : desc n j / fac j = ch n j := by
  rw [desc_ch n j h]
  exact Nat.mul_div_cancel _ (fac_pos j)
theorem fac_1000 : fac 1000 < 2 ^ 8600 := by decide +kernel
/-- rows added up -/
def prow : Nat → List Int
  | 0 => [1]
  | t + 1 => [1] ++ List.zipWith (· + ·) (prow t) (prow t).tail ++ [1]
theorem prow_len : ∀ t, (prow t).length = t + 1
  | 0 => rfl
  | t + 1 => by
    show ([1] ++ List.zipWith (· + ·) (prow t) (prow t).tail ++ [1]).length = _
    rw [List.length_append, List.length_append, List.length_zipWith, List.length_tail, prow_len t]
    simp [Nat.add_comm]
theorem prow_get : ∀ (t k : Nat), k ≤ t → (prow t)[k]? = some (ch t k : Int)
  | 0, 0, _ => rfl
  | t + 1, k, h => by
    show ([1] ++ List.zipWith (· + ·) (prow t) (prow t).tail ++ [1])[k]? = _
    have hl : (List.zipWith (· + ·) (prow t) (prow t).tail).length = t := by
      rw [List.length_zipWith, List.length_tail, prow_len]; omega
    cases k with
    | zero => rw [ch_zero]; rfl
    | succ k =>
      rw [List.append_assoc, List.cons_append, List.nil_append, List.getElem?_cons_succ]
      by_cases hk : k = t
      · rw [hk]
        rw [List.getElem?_append_right (by omega), hl, Nat.sub_self, ch_self]
        rfl
      · rw [List.getElem?_append_left (by omega), List.getElem?_zipWith, List.getElem?_tail, prow_get t k (by omega), prow_get t (k + 1) (by omega), ch_succ]
        rfl
theorem prow_zip {t k : Nat} (h : k < t) : (List.zipWith (· + ·) (prow t) (prow t).tail)[k]? = some (ch t k + ch t (k + 1) : Int) := by
  rw [List.getElem?_zipWith, List.getElem?_tail, prow_get t k (by omega), prow_get t (k + 1) (by omega)]

/-! figures of a power -/
/-- (u + 1) ^ n is the sum of the choosing numbers as figures in base u -/
def psum (u n : Nat) : Nat → Nat
  | 0 => 0
  | k + 1 => psum u n k + ch n k * u ^ k
theorem psum_succ (u n : Nat) : ∀ k, psum u (n + 1) (k + 1) = psum u n (k + 1) + u * psum u n k
  | 0 => by
    show 0 + ch (n + 1) 0 * u ^ 0 = (0 + ch n 0 * u ^ 0) + u * 0
    rw [ch_zero, ch_zero, Nat.mul_zero, Nat.add_zero]
  | k + 1 => by
    have ih := psum_succ u n k
    show psum u (n + 1) (k + 1) + ch (n + 1) (k + 1) * u ^ (k + 1) = (psum u n (k + 1) + ch n (k + 1) * u ^ (k + 1)) + u * (psum u n k + ch n k * u ^ k)
    rw [ih, ch_succ, Nat.add_mul, Nat.mul_add, Nat.pow_succ, ← Nat.mul_assoc u (ch n k), Nat.mul_comm u (ch n k), Nat.mul_assoc (ch n k) u, Nat.mul_comm u (u ^ k)]
    omega
theorem psum_top (u n : Nat) : ∀ k, n < k → psum u n k = psum u n (n + 1)
  | k + 1, h => by
    by_cases e : k = n
    · rw [e]
    · show psum u n k + ch n k * u ^ k = _
      rw [ch_gt n k (by omega), Nat.zero_mul, Nat.add_zero, psum_top u n k (by omega)]
theorem psum_pow (u : Nat) : ∀ n, psum u n (n + 1) = (u + 1) ^ n
  | 0 => by show 0 + ch 0 0 * u ^ 0 = 1; rw [ch_zero]; rfl
  | n + 1 => by
    rw [psum_succ, psum_top u n (n + 1 + 1) (by omega), psum_pow u n, Nat.pow_succ, Nat.mul_add, Nat.mul_one, Nat.mul_comm u]
    omega
theorem ch_le : ∀ n k : Nat, ch n k ≤ 2 ^ n
  | _, 0 => by rw [ch_zero]; exact Nat.two_pow_pos _
  | 0, k + 1 => by show 0 ≤ _; exact Nat.zero_le _
  | n + 1, k + 1 => by
    rw [ch_succ, Nat.pow_succ]
    have h1 := ch_le n k
    have h2 := ch_le n (k + 1)
    omega
theorem psum_lt {u n : Nat} (h : 2 ^ n < u) : ∀ k, psum u n k < u ^ k
  | 0 => by show 0 < 1; decide
  | k + 1 => by
    show psum u n k + ch n k * u ^ k < u ^ (k + 1)
    have h1 := psum_lt h k
    have h2 := ch_le n k
    rw [Nat.pow_succ]
    have h3 : (ch n k + 1) * u ^ k ≤ u * u ^ k := Nat.mul_le_mul_right _ (by omega)
    rw [Nat.add_mul, Nat.one_mul] at h3
    rw [Nat.mul_comm (u ^ k) u]
    omega
theorem psum_split {u n : Nat} (h0 : 0 < u) : ∀ m k, k ≤ m → ∃ r, psum u n m = psum u n k + u ^ k * r ∧ (k < m → r % u = ch n k % u)
  | m, k, hk => by
    induction m with
    | zero =>
      have : k = 0 := by omega
      subst this
      exact ⟨0, by rw [Nat.mul_zero]; rfl, fun h => by omega⟩
    | succ m ih =>
      by_cases e : k = m + 1
      · subst e
        exact ⟨0, by rw [Nat.mul_zero]; rfl, fun h => by omega⟩
      · obtain ⟨r, h1, h2⟩ := ih (by omega)
        by_cases e2 : k = m
        · subst e2
          refine ⟨r + ch n k, ?_, fun _ => ?_⟩
          · show psum u n k + ch n k * u ^ k = _
            have h3 : u ^ k * r = 0 := by omega
            rw [Nat.mul_add, h3, Nat.zero_add, Nat.mul_comm]
          · have h3 : u ^ k * r = 0 := by omega
            have h4 : r = 0 := by
              rcases Nat.mul_eq_zero.mp h3 with z | z
              · exact absurd z (Nat.ne_of_gt (Nat.pow_pos h0))
              · exact z
            rw [h4, Nat.zero_add]
        · refine ⟨r + u ^ (m - k) * ch n m, ?_, fun _ => ?_⟩
          · show psum u n m + ch n m * u ^ m = _
            rw [h1, Nat.mul_add, ← Nat.mul_assoc, ← Nat.pow_add, show k + (m - k) = m by omega, Nat.mul_comm (ch n m)]
            omega
          · rw [show m - k = (m - k - 1) + 1 by omega, Nat.pow_succ, Nat.mul_comm (u ^ (m - k - 1)) u, Nat.mul_assoc, Nat.add_mul_mod_self_left]
            exact h2 (by omega)
/-- figure k of (u + 1) ^ n in base u is the choosing number -/
theorem fig_pow {u n : Nat} (h : 2 ^ n < u) (k : Nat) : (u + 1) ^ n / u ^ k % u = ch n k := by
  have hl := ch_le n k
  have h0 : 0 < u := by omega
  have hs := psum_lt h k
  rw [← psum_pow u n, ← psum_top u n (n + 1 + k) (by omega)]
  obtain ⟨r, h1, h2⟩ := psum_split h0 (n := n) (n + 1 + k) k (by omega)
  rw [h1, Nat.add_mul_div_left _ _ (Nat.pow_pos h0), Nat.div_eq_of_lt hs, Nat.zero_add, h2 (by omega)]
  exact Nat.mod_eq_of_lt (by omega)

def fgs (w x : Int) (i : Nat) : List Int := (List.range i).map fun k => dvs x w k % w
theorem fgs_succ (w x : Int) (i : Nat) : fgs w x (i + 1) = fgs w x i ++ [dvs x w i % w] := by
  unfold fgs
  rw [List.range_succ, List.map_append]
  rfl
theorem fgs_len (w x : Int) (i : Nat) : (fgs w x i).length = i := by
  unfold fgs
  rw [List.length_map, List.length_range]

/-! lists: slices by a number, pairs in step, sums -/
theorem cut_hi {xs : List V} {j : Int} (h0 : 0 ≤ j) : cutV xs none (some j) = xs.take j.toNat := by
  obtain ⟨k, rfl⟩ := Int.eq_ofNat_of_zero_le h0
  unfold cutV
  rw [HT.sIx_none, HT.sIx_nat, List.drop_zero, Nat.sub_zero, Int.toNat_natCast]
  rcases Nat.le_total k xs.length with h | h
  · rw [Nat.min_eq_left h]
  · rw [Nat.min_eq_right h, List.take_length, List.take_of_length_le h]
theorem cut_lo {xs : List V} {j : Int} (h0 : 0 ≤ j) : cutV xs (some j) none = xs.drop j.toNat := by
  obtain ⟨k, rfl⟩ := Int.eq_ofNat_of_zero_le h0
  unfold cutV
  rw [HT.sIx_none, HT.sIx_nat, Int.toNat_natCast]
  rcases Nat.le_total k xs.length with h | h
  · rw [Nat.min_eq_left h, List.take_of_length_le (by rw [List.length_drop]; exact Nat.le_refl _)]
  · rw [Nat.min_eq_right h, List.drop_length, List.take_nil, List.drop_of_length_le h]
theorem pr_of {α β : Type} {F : α → β → Prop} : ∀ {xs : List α}, (∀ x ∈ xs, ∃ y, F x y) → ∃ ys, Paired F xs ys
  | [], _ => ⟨[], .nil⟩
  | x :: xs, h => by
    obtain ⟨y, hy⟩ := h x List.mem_cons_self
    obtain ⟨ys, hys⟩ := pr_of (xs := xs) fun z hz => h z (List.mem_cons_of_mem _ hz)
    exact ⟨y :: ys, .cons hy hys⟩
theorem pr_take {α β : Type} {F : α → β → Prop} : ∀ {xs : List α} {ys : List β} (n : Nat), Paired F xs ys → Paired F (xs.take n) (ys.take n)
  | _, _, 0, _ => by
    rw [List.take_zero, List.take_zero]
    exact .nil
  | _, _, n + 1, .nil => .nil
  | _, _, n + 1, .cons a b => .cons a (pr_take n b)
theorem pr_drop {α β : Type} {F : α → β → Prop} : ∀ {xs : List α} {ys : List β} (n : Nat), Paired F xs ys → Paired F (xs.drop n) (ys.drop n)
  | _, _, 0, h => h
  | _, _, n + 1, .nil => .nil
  | _, _, n + 1, .cons a b => pr_drop n b
theorem pr_rev {α β : Type} {F : α → β → Prop} : ∀ {xs : List α} {ys : List β}, Paired F xs ys → Paired F xs.reverse ys.reverse
  | _, _, .nil => .nil
  | _, _, .cons a b => by
    rw [List.reverse_cons, List.reverse_cons]
    exact (pr_rev b).snoc a
theorem sum_app : ∀ (a b : List Int), (a ++ b).sum = a.sum + b.sum
  | [], b => by rw [List.nil_append, List.sum_nil, Int.zero_add]
  | x :: a, b => by rw [List.cons_append, List.sum_cons, List.sum_cons, sum_app a b, Int.add_assoc]
theorem sum_rev : ∀ a : List Int, a.reverse.sum = a.sum
  | [] => rfl
  | x :: a => by rw [List.reverse_cons, sum_app, sum_rev a, List.sum_cons, List.sum_cons, List.sum_nil, Int.add_zero, Int.add_comm]
theorem sum_cut (a : List Int) (n : Nat) : (a.take n).sum + (a.drop n).sum = a.sum := by
  rw [← sum_app, List.take_append_drop]
theorem w_repL {H : Hp} {Q : VK} {l : Addr} {xs : List V} {j : Int} (h : H l = some (.lst xs)) (h0 : 0 ≤ j) (h1 : j ≤ 1000) (z : xs.length ≤ 100) (k : ∀ p H', H p = none → Sm H H' → H' p = some (.lst (List.replicate j.toNat xs).flatten) → Q (.ref p) H') : gMul (.ref l) (.int j) H Q :=
  .inr (.inr ⟨l, j, _, rfl, rfl, h, by omega, by omega, sz_of (by
    have := Nat.mul_le_mul z (show j.toNat ≤ 1000 by omega)
    omega), fun p hp => k p _ hp (sm_new hp) upd_same⟩)
theorem mem_rep {xs : List V} {n : Nat} {x : V} (h : x ∈ (List.replicate n xs).flatten) : x ∈ xs := by
  obtain ⟨l, hl, hx⟩ := List.mem_flatten.mp h
  rw [(List.mem_replicate.mp hl).2] at hx
  exact hx
theorem rep_pos {xs : List V} {n : Nat} (hn : 0 < n) (h : 0 < xs.length) : 0 < (List.replicate n xs).flatten.length := by
  obtain ⟨x, hx⟩ := List.exists_mem_of_length_pos h
  exact List.length_pos_of_mem (List.mem_flatten.mpr ⟨xs, List.mem_replicate.mpr ⟨by omega, rfl⟩, hx⟩)
/-! both ways of an if lead to one place -/
theorem w_ifJ {t : TT} {A B : TS} {n0 c d : L2.St → Hp → Prop} {r : VK} {σ : L2.St} {H : Hp} (J : L2.St → Hp → Prop) (key : ∀ σ' H', J σ' H' → NX (En n0 r c d) σ' H') (body : ∀ n : L2.St → Hp → Prop, (∀ σ' H', J σ' H' → n σ' H') → tIfS t A B (En n r c d) σ H) : tIfS t A B (En n0 r c d) σ H := body n0 key

/-! int(text) and str(int) beyond 640 figures, up to 4300 -/
theorem nsIn_none {K : PySem.W.Frag} {h : Heap} {a : Addr} {mc : Str → Option Value} {n : Str} (X : K.In h) (G : h.Ns a mc) (e : PySem.W.nsIn K a n = some none) : mc n = none := by
  obtain ⟨o, es, ep, ho, hd, _, hf⟩ := G
  unfold PySem.W.nsIn at e
  split at e
  · rename_i c d es' n' sl q
    have := X _ _ q
    rw [ho] at this
    cases this
    cases hd
    split at e
    · cases e
    · rename_i he
      rw [← hf]
      unfold nsFind findBy
      rw [← Array.find?_toList, he]
      rfl
  · cases e
/-- nothing has set how many figures a text may have -/
def NoDig (K : PySem.W.Frag) : Prop := PySem.W.nsIn K cStatics "sys.int_max_str_digits" = some none
theorem inv_nd {X : Cx} {pins : List (Addr × Obj)} {σ : L2.St} {H : Hp} {s : Shared} (I : Inv X pins σ H s) (z : NoDig X.K) : s.heap.NoDigits := by
  obtain ⟨mc, a, _⟩ := I.nolimit
  exact ⟨mc, a, nsIn_none I.kIn a z⟩
theorem wp_textB {M : Model} {A : Around} {E : Value → Shared → Prop} {s : Shared} {Q : Value → Shared → Prop} {v : Value} {text : List Nat} {n : Int}
    (hs : ¬ (text.takeWhile (· != 0)).length ≤ 640) (hr : (int_private% "readNumeral") 4300 10 (text.takeWhile (· != 0)) = (int_private% "Numeral.value") n)
    (ha : ((text.takeWhile (· != 0)).length == text.length) = true) (nd : s.heap.NoDigits) (h : Q (.int n s.toks) { s with toks := s.toks + 1 }) :
    wpAny M A ((int_private% "intFromText") v text 10) Q E s := by
  obtain ⟨mc, hns, hnone⟩ := nd
  have hlim : ∀ {Q : Nat → Shared → Prop}, Q 4300 s → wpAny M A Builtin.intMaxStrDigits Q E s := fun q => by
    unfold Builtin.intMaxStrDigits
    refine wpAny_bind (wpAny_nsGet hns ?_)
    rw [hnone]
    exact wpAny_pure q
  clear hns hnone
  obtain ⟨hp, g, d, tk, os⟩ := s
  repeat (any_goals (first
    | assumption
    | (with_reducible refine wpAny_ite_false (decide_eq_false hs) ?_)
    | (with_reducible refine wpAny_ite_true (decide_eq_true ha) ?_)
    | (with_reducible refine hlim ?_)
    | wp_step))
  all_goals (try rw [hr])
  all_goals (try dsimp only)
  repeat (any_goals (first
    | assumption
    | (with_reducible refine wpAny_ite_false (decide_eq_false hs) ?_)
    | (with_reducible refine wpAny_ite_true (decide_eq_true ha) ?_)
    | wp_step))
structure HidI (p : Prop) : Prop where
  out : p
theorem int_big {x : PySem.Str} {u : Tok} {n : Int} (hl : x.length ≤ sizeLine) (hb : ¬ (numSeenOf x).length ≤ 640) (hn : PySem.intText? x = some n) {M : Model} {A : Around} {E : Value → Shared → Prop} {s : Shared} {Q : Value → Shared → Prop}
    (nd : s.heap.NoDigits) (h : Q (.int n s.toks) { s with toks := s.toks + 1 }) : wpAny M A (Builtin.«int.__new__» ⟨[.type "int", .str x u], []⟩) (fun fin s' => ∃ v, fin = .done (.ret v) ∧ Q v s') E s := by
  obtain ⟨hp, g, d, tk, os⟩ := s
  have f1 := F.conv_sub_int
  have f2 := F.madeHere_int
  have f3 := PySem.W.KIN.str_int
  have f4 := PySem.W.KIN.str_idx
  have f5 := PySem.W.KIN.str_trunc
  have f6 : typeOf (.str x u) = pure (.type "str") := rfl
  have hr : (int_private% "readNumeral") 4300 10 (numSeenOf x) = (int_private% "Numeral.value") n ∧ ((numSeenOf x).length == (numTextOf x).length) = true := by
    rcases read4300 x hl with ⟨m, h1, h2, h3⟩ | ⟨h1, _⟩
    · rw [hn] at h1
      injection h1 with h1
      subst h1
      exact ⟨h3, h2⟩
    · rw [hn] at h1
      cases h1
  have hk := HidI.mk (And.intro hb (And.intro hr nd))
  clear hr hl hn hb nd
  repeat (any_goals (first
    | assumption
    | ((with_reducible show wpAny _ _ ((int_private% "intFromText") _ _ _) _ _ _); refine wp_textB hk.out.1 hk.out.2.1.1 hk.out.2.1.2 hk.out.2.2 ?_)
    | wp_step))
  all_goals first | exact ⟨_, rfl, h⟩ | skip
theorem int_few {x : PySem.Str} {u : Tok} {n : Int} (hb : (numSeenOf x).length ≤ 640) (hn : PySem.intText? x = some n) {M : Model} {A : Around} {E : Value → Shared → Prop} {s : Shared} {Q : Value → Shared → Prop}
    (h : Q (.int n s.toks) { s with toks := s.toks + 1 }) : wpAny M A (Builtin.«int.__new__» ⟨[.type "int", .str x u], []⟩) (fun fin s' => ∃ v, fin = .done (.ret v) ∧ Q v s') E s := by
  obtain ⟨hp, g, d, tk, os⟩ := s
  have f1 := F.conv_sub_int
  have f2 := F.madeHere_int
  have f3 := PySem.W.KIN.str_int
  have f4 := PySem.W.KIN.str_idx
  have f5 := PySem.W.KIN.str_trunc
  have f6 : typeOf (.str x u) = pure (.type "str") := rfl
  have hr : (int_private% "readNumeral") 0 10 (numSeenOf x) = (int_private% "Numeral.value") n ∧ ((numSeenOf x).length == (numTextOf x).length) = true := by
    rcases read0 x hb with ⟨m, h1, h2, h3⟩ | ⟨h1, _⟩
    · rw [hn] at h1
      injection h1 with h1
      subst h1
      exact ⟨h3, h2⟩
    · rw [hn] at h1
      cases h1
  have hk := HidI.mk (And.intro hb hr)
  clear hr hn hb
  repeat (any_goals (first
    | assumption
    | ((with_reducible show wpAny _ _ ((int_private% "intFromText") _ _ _) _ _ _); refine PySem.W.KIN.wp_text hk.out.1 hk.out.2.1 hk.out.2.2 ?_)
    | wp_step))
  all_goals first | exact ⟨_, rfl, h⟩ | skip
theorem call_textB {prog : Program} {w : World} {A : Around} {E : Value → Shared → Prop} {s : Shared} {x : PySem.Str} {t : Tok} {n : Int} {Q : Value → Shared → Prop} (hl : x.length ≤ sizeLine) (hn : PySem.intText? x = some n) (nd : s.heap.NoDigits)
    (h : Q (.int n s.toks) { s with toks := s.toks + 1 }) : wpAny (model prog w) A (call (.type "int") [.str x t]) Q E s := by
  by_cases hb : (numSeenOf x).length ≤ 640
  · exact call_int_1 (S := fun A R s => R (.ok (.ret (.int n s.toks))) { s with toks := s.toks + 1 }) (fun prog w A R s hq => wpAny_mono (int_few (Q := fun v s' => R (.ok (.ret v)) s') hb hn hq) (fun fin s' h' => by obtain ⟨v, rfl, hv⟩ := h'; exact hv) fun _ _ x => x) ⟨typeIs_int _ _ _, h⟩
  · exact call_int_1 (S := fun A R s => s.heap.NoDigits ∧ R (.ok (.ret (.int n s.toks))) { s with toks := s.toks + 1 }) (fun prog w A R s hq => wpAny_mono (int_big (Q := fun v s' => R (.ok (.ret v)) s') hl hb hn hq.1 hq.2) (fun fin s' h' => by obtain ⟨v, rfl, hv⟩ := h'; exact hv) fun _ _ x => x) ⟨nd, typeIs_int _ _ _, h⟩
def gStrI : List V → Hp → VK → Prop := fun xs H Q => ∃ i : Int, xs = [.int i] ∧ i.natAbs < 10 ^ 4300 ∧ Q (.str (toString i)) H
theorem w_strInt {i : Int} {H : Hp} {Q : VK} (h : i.natAbs < 10 ^ 4300) (k : Q (.str (toString i)) H) : gStrI [.int i] H Q := ⟨i, rfl, h, k⟩
def gIntT : List V → Hp → VK → Prop := fun xs H Q => ∃ a n, xs = [.str a] ∧ PySem.intText? a = some n ∧ a.length ≤ sizeLine ∧ Q (.int n) H
theorem w_intText {a : Str} {n : Int} {H : Hp} {Q : VK} (h : PySem.intText? a = some n) (hl : a.length ≤ sizeLine) (k : Q (.int n) H) : gIntT [.str a] H Q := ⟨a, n, rfl, h, hl, k⟩
section
variable {X : Cx}
theorem call_intText (z : NoDig X.K) : CallR X (.type "int") gIntT := by
  intro pins s σ H xs us Q I rs h
  obtain ⟨a, n, rfl, hn, hl, h⟩ := h
  cases rs with
  | cons r1 rs =>
    cases rs
    obtain ⟨t, rfl⟩ := r1
    exact call_textB hl hn (inv_nd I z) ⟨.int n, H, I.tok _, ⟨_, rfl⟩, h⟩
theorem call_strInt (z : NoDig X.K) (hc : X.calm = true) : CallR X (.type "str") gStrI := by
  intro pins s σ H xs us Q I r h
  obtain ⟨i, rfl, hz, q⟩ := h
  obtain ⟨u, rfl, t, rfl⟩ := vals1 r
  exact str_of_int_or (I.ok.hd hc) (inv_nd I z) (fun _ => ⟨.str _, H, I.tok _, ⟨_, rfl⟩, q⟩) (fun hge => absurd hz (Nat.not_lt.mpr hge))
end

/-! int(text, 2) of noughts and ones -/
def Bit2 (c : Nat) : Prop := c = 48 ∨ c = 49
def num2 (l : List Nat) : Nat := l.foldl (fun a c => a * 2 + (c - 48)) 0
theorem b2_hex {c : Nat} (h : Bit2 c) : L2.Hx.IsHex c := .inl (by rcases h with rfl | rfl <;> decide)
theorem b2_step {ds : Array Nat} {b : Bool} {c : Nat} (h : Bit2 c) : PySem.NumText.step 2 (ds, b) c = some (ds.push (c - 48), true) := by
  rcases h with rfl | rfl <;> rfl
theorem b2_fold : ∀ (l : List Nat) (ds : Array Nat), (∀ c ∈ l, Bit2 c) → l.foldlM (PySem.NumText.step 2) (ds, true) = some (l.foldl (fun a c => a.push (c - 48)) ds, true)
  | [], _, _ => rfl
  | c :: l, ds, h => by
    rw [List.foldlM_cons, b2_step (h c List.mem_cons_self)]
    exact b2_fold l (ds.push (c - 48)) fun x hx => h x (List.mem_cons_of_mem _ hx)
theorem b2_digits {l : List Nat} (h : ∀ c ∈ l, Bit2 c) (ne : l ≠ []) : digits? 2 l = some (l.foldl (fun a c => a.push (c - 48)) #[]) := by
  cases l with
  | nil => exact (ne rfl).elim
  | cons c l =>
    unfold digits?
    rw [List.foldlM_cons, b2_step (h c List.mem_cons_self)]
    show ((l.foldlM (PySem.NumText.step 2) (Array.push #[] (c - 48), true)).bind _) = _
    rw [b2_fold l _ fun x hx => h x (List.mem_cons_of_mem _ hx)]
    rfl
theorem b2_push : ∀ (l : List Nat) (ds : Array Nat), (l.foldl (fun a c => a.push (c - 48)) ds).foldl (fun a d => a * 2 + d) 0 = l.foldl (fun a c => a * 2 + (c - 48)) (ds.foldl (fun a d => a * 2 + d) 0)
  | [], _ => rfl
  | c :: l, ds => by
    rw [List.foldl_cons, List.foldl_cons, b2_push l (ds.push (c - 48)), Array.foldl_push]
theorem b2_based {l : List Nat} (h : ∀ c ∈ l, Bit2 c) : based 2 l = (2, false, l) := by
  match l, h with
  | [], _ => rfl
  | [a], h => rcases h a List.mem_cons_self with rfl | rfl <;> rfl
  | a :: c :: r, h =>
    have h2 := h c (List.mem_cons_of_mem _ List.mem_cons_self)
    rcases h a List.mem_cons_self with rfl | rfl <;> rcases h2 with rfl | rfl <;> rfl
theorem b2_read (m : Nat) {l : List Nat} (h : ∀ c ∈ l, Bit2 c) (ne : l ≠ []) : (int_private% "readNumeral") m 2 l = (int_private% "Numeral.value") ((num2 l : Nat) : Int) := by
  have hx : ∀ c ∈ l, L2.Hx.IsHex c := fun c hc => b2_hex (h c hc)
  have hb := b2_based h
  refine Eq.trans (readNumeral_eq m 2 l) ?_
  rw [L2.Hx.dropB hx, L2.Hx.signH hx]
  show judge m false (based 2 l).1 (based 2 l).2.1 (digits? (based 2 l).1 ((List.dropWhile blank (based 2 l).2.2.reverse).reverse)) = _
  rw [hb]
  show judge m false 2 false (digits? 2 ((List.dropWhile blank l.reverse).reverse)) = _
  rw [L2.Hx.dropB (cs := l.reverse) fun c hc => hx c (List.mem_reverse.mp hc), List.reverse_reverse, b2_digits h ne]
  have e : ∀ ds : Array Nat, judge m false 2 false (some ds) = (int_private% "Numeral.value") ((ds.foldl (fun a d => a * 2 + d) 0 : Nat) : Int) := fun ds => by
    unfold judge
    rfl
  rw [e, b2_push]
  rfl
theorem wp_text2 {M : Model} {A : Around} {E : Value → Shared → Prop} {s : Shared} {Q : Value → Shared → Prop} {v : Value} {text : List Nat} {n : Int}
    (hr : ∀ m : Nat, (int_private% "readNumeral") m 2 (text.takeWhile (· != 0)) = (int_private% "Numeral.value") n)
    (ha : ((text.takeWhile (· != 0)).length == text.length) = true) (nd : s.heap.NoDigits) (h : Q (.int n s.toks) { s with toks := s.toks + 1 }) :
    wpAny M A ((int_private% "intFromText") v text 2) Q E s := by
  obtain ⟨mc, hns, hnone⟩ := nd
  have hlim : ∀ {Q : Nat → Shared → Prop}, Q 4300 s → wpAny M A Builtin.intMaxStrDigits Q E s := fun q => by
    unfold Builtin.intMaxStrDigits
    refine wpAny_bind (wpAny_nsGet hns ?_)
    rw [hnone]
    exact wpAny_pure q
  clear hns hnone
  obtain ⟨hp, g, d, tk, os⟩ := s
  by_cases hs : (text.takeWhile (· != 0)).length ≤ 640
  · repeat (any_goals (first
      | assumption
      | (with_reducible refine wpAny_ite_true (decide_eq_true hs) ?_)
      | (with_reducible refine wpAny_ite_true (decide_eq_true ha) ?_)
      | wp_step))
    all_goals (try rw [hr])
    all_goals (try dsimp only)
    repeat (any_goals (first
      | assumption
      | (with_reducible refine wpAny_ite_true (decide_eq_true ha) ?_)
      | wp_step))
  · repeat (any_goals (first
      | assumption
      | (with_reducible refine wpAny_ite_false (decide_eq_false hs) ?_)
      | (with_reducible refine wpAny_ite_true (decide_eq_true ha) ?_)
      | (with_reducible refine hlim ?_)
      | wp_step))
    all_goals (try rw [hr])
    all_goals (try dsimp only)
    repeat (any_goals (first
      | assumption
      | (with_reducible refine wpAny_ite_true (decide_eq_true ha) ?_)
      | wp_step))
theorem int_two {x : PySem.Str} {u t : Tok} (hx : ∀ c ∈ x.cps.toList, Bit2 c) (ne : x.cps.toList ≠ []) {M : Model} {A : Around} {E : Value → Shared → Prop} {s : Shared} {Q : Value → Shared → Prop}
    (nd : s.heap.NoDigits) (h : Q (.int ((num2 x.cps.toList : Nat) : Int) s.toks) { s with toks := s.toks + 1 }) : wpAny M A (Builtin.«int.__new__» ⟨[.type "int", .str x u, .int 2 t], []⟩) (fun fin s' => ∃ v, fin = .done (.ret v) ∧ Q v s') E s := by
  obtain ⟨hp, g, d, tk, os⟩ := s
  have f1 := F.conv_sub_int
  have f2 := F.madeHere_int
  have f6 : typeOf (.str x u) = pure (.type "str") := rfl
  obtain ⟨e1, e2⟩ := L2.Hx.seen_hex (x := x) fun c hc => b2_hex (hx c hc)
  have hr : ∀ m : Nat, (int_private% "readNumeral") m 2 (numSeenOf x) = (int_private% "Numeral.value") ((num2 x.cps.toList : Nat) : Int) := fun m => by
    rw [e2]
    exact b2_read m hx ne
  have ha : ((numSeenOf x).length == (numTextOf x).length) = true := by
    rw [e1, e2]
    exact beq_self_eq_true _
  have hk := HidI.mk (And.intro hr (And.intro ha nd))
  clear hr ha e1 e2 ne hx nd
  repeat (any_goals (first
    | assumption
    | ((with_reducible show wpAny _ _ ((int_private% "intFromText") _ _ _) _ _ _); refine wp_text2 hk.out.1 hk.out.2.1 hk.out.2.2 ?_)
    | wp_step))
  all_goals first | exact ⟨_, rfl, h⟩ | skip
def gIntT2 : List V → Hp → VK → Prop := fun xs H Q => ∃ a, xs = [.str a, .int 2] ∧ a.cps.toList ≠ [] ∧ (∀ c ∈ a.cps.toList, Bit2 c) ∧ Q (.int ((num2 a.cps.toList : Nat) : Int)) H
theorem call_two {prog : Program} {w : World} {A : Around} {E : Value → Shared → Prop} {s : Shared} {x : PySem.Str} {u t : Tok} {Q : Value → Shared → Prop} (hx : ∀ c ∈ x.cps.toList, Bit2 c) (ne : x.cps.toList ≠ []) (nd : s.heap.NoDigits)
    (h : Q (.int ((num2 x.cps.toList : Nat) : Int) s.toks) { s with toks := s.toks + 1 }) : wpAny (model prog w) A (call (.type "int") [.str x u, .int 2 t]) Q E s :=
  callType_new (S := fun A R s => s.heap.NoDigits ∧ R (.ok (.ret (.int ((num2 x.cps.toList : Nat) : Int) s.toks))) { s with toks := s.toks + 1 }) F.called_int F.newNe_int (L2.Hx.typeCall_int_2 _ _) (L2.Hx.newCall_int_2 _ _)
    (fun obj => F.initArgs_range_2 obj _ _) F.entry_int_new (fun prog w A R s hq => wpAny_mono (int_two (Q := fun v s' => R (.ok (.ret v)) s') hx ne hq.1 hq.2) (fun fin s' h' => by obtain ⟨v, rfl, hv⟩ := h'; exact hv) fun _ _ x => x) ⟨nd, typeIs_int _ _ _, h⟩
section
variable {X : Cx}
theorem call_intText2 (z : NoDig X.K) : CallR X (.type "int") gIntT2 := by
  intro pins s σ H xs us Q I rs h
  obtain ⟨a, rfl, ne, hx, h⟩ := h
  obtain ⟨u1, u2, rfl, ⟨t1, rfl⟩, t2, rfl⟩ := vals2 rs
  exact call_two hx ne (inv_nd I z) ⟨.int _, H, I.tok _, ⟨_, rfl⟩, h⟩
end
theorem w_intText2 {a : Str} {H : Hp} {Q : VK} (ne : a.cps.toList ≠ []) (hx : ∀ c ∈ a.cps.toList, Bit2 c) (k : Q (.int ((num2 a.cps.toList : Nat) : Int)) H) : gIntT2 [.str a, .int 2] H Q := ⟨a, rfl, ne, hx, k⟩

/-! bits of ints that are not negative -/
theorem and_nn {a b : Nat} : Builtin.bitAnd (a : Int) (b : Int) = ((a &&& b : Nat) : Int) := by
  have h := bitAnd_pp (Int.natCast_nonneg a) (Int.natCast_nonneg b)
  rw [Int.toNat_natCast, Int.toNat_natCast] at h
  exact h
theorem and_one {i : Int} (h : 0 ≤ i) : Builtin.bitAnd i 1 = i % 2 := by
  obtain ⟨n, rfl⟩ := Int.eq_ofNat_of_zero_le h
  have e := @and_nn n 1
  rw [show ((1 : Nat) : Int) = 1 from rfl] at e
  rw [e, Nat.and_one_is_mod]
  omega

/-! a number's bits as a text -/
def bl : Nat → List Nat
  | 0 => []
  | n + 1 => bl ((n + 1) / 2) ++ [48 + (n + 1) % 2]
termination_by n => n
decreasing_by omega
theorem bl_eq {n : Nat} (h : 0 < n) : bl n = bl (n / 2) ++ [48 + n % 2] := by
  cases n with
  | zero => omega
  | succ n => rw [bl]
theorem bl_zero : bl 0 = [] := by rw [bl]
theorem bl_len : ∀ (e n : Nat), n < 2 ^ e → (bl n).length ≤ e
  | 0, n, h => by
    rw [Nat.pow_zero] at h
    rw [show n = 0 by omega, bl_zero]
    exact Nat.le_refl _
  | e + 1, n, h => by
    rw [Nat.pow_succ] at h
    by_cases h0 : 0 < n
    · rw [bl_eq h0, List.length_append]
      have := bl_len e (n / 2) (by omega)
      show _ + 1 ≤ e + 1
      omega
    · rw [show n = 0 by omega, bl_zero]
      exact Nat.zero_le _
theorem bl_bit (n : Nat) : ∀ c ∈ bl n, Bit2 c := by
  induction n using Nat.strongRecOn with
  | ind n ih =>
    intro c hc
    by_cases h0 : 0 < n
    · rw [bl_eq h0] at hc
      rcases List.mem_append.mp hc with hc | hc
      · exact ih (n / 2) (by omega) c hc
      · rw [List.mem_singleton.mp hc]
        unfold Bit2
        omega
    · rw [show n = 0 by omega, bl_zero] at hc
      cases hc
theorem num2_snoc (l : List Nat) (c : Nat) : num2 (l ++ [c]) = num2 l * 2 + (c - 48) := by
  unfold num2
  rw [List.foldl_append]
  rfl
theorem num2_bl (n : Nat) : num2 (bl n) = n := by
  induction n using Nat.strongRecOn with
  | ind n ih =>
    by_cases h0 : 0 < n
    · rw [bl_eq h0, num2_snoc, ih (n / 2) (by omega)]
      omega
    · rw [show n = 0 by omega, bl_zero]
      rfl
def btl (n : Nat) : List Nat := if n = 0 then [48] else bl n
theorem btl_zero : btl 0 = [48] := if_pos rfl
theorem btl_pos {n : Nat} (h : 0 < n) : btl n = bl n := if_neg (by omega)
theorem bl_ne {n : Nat} (h : 0 < n) : bl n ≠ [] := by
  rw [bl_eq h]
  intro e
  have := congrArg List.length e
  rw [List.length_append] at this
  simp at this
theorem btl_ne (n : Nat) : btl n ≠ [] := by
  by_cases h : 0 < n
  · rw [btl_pos h]; exact bl_ne h
  · rw [show n = 0 by omega, btl_zero]; intro e; cases e
theorem btl_bit (n : Nat) : ∀ c ∈ btl n, Bit2 c := by
  by_cases h : 0 < n
  · rw [btl_pos h]; exact bl_bit n
  · rw [show n = 0 by omega, btl_zero]
    intro c hc
    exact .inl (List.mem_singleton.mp hc)
theorem btl_len {e n : Nat} (h : n < 2 ^ e) (he : 1 ≤ e) : (btl n).length ≤ e := by
  by_cases h0 : 0 < n
  · rw [btl_pos h0]; exact bl_len e n h
  · rw [show n = 0 by omega, btl_zero]; exact he
theorem num2_zeros (l : List Nat) : ∀ k : Nat, num2 (List.replicate k 48 ++ l) = num2 l
  | 0 => rfl
  | k + 1 => num2_zeros l k
theorem num2_btl (n : Nat) : num2 (btl n) = n := by
  by_cases h : 0 < n
  · rw [btl_pos h]; exact num2_bl n
  · rw [show n = 0 by omega, btl_zero]; rfl
theorem str_ext {a b : Str} (h : a.cps.toList = b.cps.toList) : a = b := by
  cases a
  cases b
  congr 1
  exact Array.toList_inj.mp h
def sg (c : Nat) : Str := ⟨#[c]⟩
theorem app_tl (a b : Str) : (a ++ b).cps.toList = a.cps.toList ++ b.cps.toList := Array.toList_append
theorem join_fold (e : Str) (he : e.cps = #[]) : ∀ (cs : List Nat) (a : Array Nat), ((cs.map sg).foldl (fun acc p => acc ++ e.cps ++ p.cps) a).toList = a.toList ++ cs
  | [], a => by simp
  | c :: cs, a => by
    rw [List.map_cons, List.foldl_cons, join_fold e he cs, he]
    simp [sg]
theorem join_sg (cs : List Nat) : (Txt.join (Str.ofString "") (cs.map sg)).cps.toList = cs := by
  cases cs with
  | nil => rfl
  | cons c cs => exact join_fold (Str.ofString "") rfl cs #[c]
theorem tos_bit {i : Int} (h : i = 0 ∨ i = 1) : ((toString i : String) : Str) = sg (48 + i.toNat) := by
  rcases h with rfl | rfl <;> rfl
/-! lists of texts -/
theorem dp_strs {K : PySem.W.Frag} {H : Hp} : ∀ ys : List Str, DpAll K H (ys.map V.str) (ys.map PyData.str)
  | [] => .nil
  | y :: ys => .cons (.str y) (dp_strs ys)
theorem lay_strs : ∀ ys : List Str, (∀ y ∈ ys, PyData.strOk y = true) → PyData.canLayAll0 (ys.map PyData.str) = true ∧ PyData.depthAll (ys.map PyData.str) = 0
  | [], _ => ⟨rfl, rfl⟩
  | y :: ys, h => by
    obtain ⟨h1, h2⟩ := lay_strs ys (fun z hz => h z (List.mem_cons_of_mem _ hz))
    have h3 := h y List.mem_cons_self
    exact ⟨by simp [PyData.canLayAll0, PyData.canLay0, h1, h3], by simp [PyData.depthAll, PyData.depth, h2]⟩
theorem shp_strs {ys : List Str} (h : ∀ y ∈ ys, PyData.strOk y = true) : SeqAt.shaped (.list (ys.map PyData.str)) = true := by
  obtain ⟨h1, h2⟩ := lay_strs ys h
  simp [SeqAt.shaped, PyData.canLay0, PyData.depth, h1, h2]
theorem sg_ok {cs : List Nat} (h : ∀ c ∈ cs, c < 1000) : ∀ y ∈ cs.map sg, PyData.strOk y = true := fun y hy => by
  obtain ⟨c, hc, rfl⟩ := List.mem_map.mp hy
  have := h c hc
  unfold PyData.strOk sg
  simp
  omega
theorem w_eqNilT {K : PySem.W.Frag} {H : Hp} {Q : VK} {a b : Addr} {ys : List Str} (h1 : SqL K H a (ys.map V.str)) (h2 : SqL K H b []) (ok : ∀ y ∈ ys, PyData.strOk y = true) (k : Q (.bl (decide (ys = []))) H) : gEq K (.ref a) (.ref b) H Q := by
  refine .inr ⟨.list (ys.map .str), .list (([] : List Str).map .str), .lst h1 (dp_strs _), .lst h2 .nil, shp_strs ok, shp_strs (fun y hy => by cases hy), ?_⟩
  have e : PyData.eqv (.list (ys.map .str)) (.list (([] : List Str).map .str)) = decide (ys = []) := by
    rw [PyData.eqv]
    cases ys <;> rfl
  rw [e]
  exact k
def RevE (K : PySem.W.Frag) (Q : VK) (x : V) (H1 : Hp) : Prop := ∃ a xs, x = .ref a ∧ SqL K H1 a xs ∧ ∀ p, H1 p = none → Q (.ref p) (upd H1 p (.lst xs.reverse))
theorem w_revL {K : PySem.W.Frag} {σ : L2.St} {H : Hp} {Q : VK} {te : TE} (k : te σ H fun x H1 => RevE K Q x H1) : tRevL K te σ H Q := k
theorem w_revE {K : PySem.W.Frag} {H : Hp} {Q : VK} {a : Addr} {xs : List V} (h : SqL K H a xs) (k : ∀ p H', H p = none → Sm H H' → H' p = some (.lst xs.reverse) → Q (.ref p) H') : RevE K Q (.ref a) H := ⟨a, xs, rfl, h, fun p hp => k p _ hp (sm_new hp) upd_same⟩
/-! x or y, x a text -/
def OrS (K : PySem.W.Frag) (tb : TE) (σ : L2.St) (Q : VK) (x : V) (H1 : Hp) : Prop := ∃ k, TruV K x H1 k ∧ if k = true then Q x H1 else tb σ H1 Q
theorem w_orT {K : PySem.W.Frag} {ta tb : TE} {σ : L2.St} {H : Hp} {Q : VK} (k : ta σ H fun x H1 => OrS K tb σ Q x H1) : tOrT K ta tb σ H Q := k
theorem w_orS {K : PySem.W.Frag} {tb : TE} {σ : L2.St} {H : Hp} {Q : VK} {z : Str} (zl : z.length ≤ sizeLine) (k1 : z.cps.toList ≠ [] → Q (.str z) H) (k2 : z.cps.toList = [] → tb σ H Q) : OrS K tb σ Q (.str z) H := by
  refine ⟨_, ⟨zl, rfl⟩, ?_⟩
  have e : z.length = z.cps.toList.length := (tl_len z).symm
  cases h : z.cps.toList with
  | nil =>
    rw [h] at e
    rw [e]
    exact k2 h
  | cons c l =>
    rw [h] at e
    rw [e, if_pos (by rw [bne_iff_ne, List.length_cons]; omega)]
    exact k1 (by rw [h]; intro z; cases z)
def gStrB : List V → Hp → VK → Prop := fun xs H Q => ∃ i : Int, xs = [.int i] ∧ i.natAbs.log2 < 1920 ∧ Q (.str (toString i)) H
theorem call_gStrB {X : Cx} : CallR X (.type "str") gStrB := call_str_int
theorem w_strB {i : Int} {H : Hp} {Q : VK} (h : i = 0 ∨ i = 1) (k : Q (.str (sg (48 + i.toNat))) H) : gStrB [.int i] H Q := by
  refine ⟨i, rfl, ?_, ?_⟩
  · rcases h with rfl | rfl <;> decide
  · rw [tos_bit h]; exact k
/-! a nought, so often -/
theorem zeros_ok {m : Int} (h0 : 0 ≤ m) (h1 : m ≤ 10000) : MulOk (Str.ofString "0") m := by
  have e : (Str.ofString "0").length = 1 := rfl
  refine ⟨?_, fun h _ => ?_, fun _ _ => ?_⟩
  · rw [Bool.or_eq_false_iff, decide_eq_false_iff_not, decide_eq_false_iff_not]
    exact ⟨by omega, by omega⟩
  · rw [e]
    have : (1 : Int) ≤ (2 ^ 63 - 1) / m := by
      rw [Int.le_ediv_iff_mul_le (by omega)]
      omega
    omega
  · rw [e]
    show decide (1 * m.toNat > sizeLine) = false
    rw [decide_eq_false_iff_not]
    have : m.toNat ≤ sizeLine := sz_of (by omega)
    omega
theorem rep_fold (c : Nat) : ∀ (n : Nat) (a : Array Nat), ((List.replicate n (#[c] : Array Nat)).foldl (· ++ ·) a).toList = a.toList ++ List.replicate n c
  | 0, a => by simp
  | n + 1, a => by
    rw [List.replicate_succ, List.foldl_cons, rep_fold c n, Array.toList_append, List.append_assoc]
    rfl
theorem zeros_tl {m : Int} (h0 : 0 ≤ m) : (Txt.mul (Str.ofString "0") m).cps.toList = List.replicate m.toNat 48 := by
  unfold Txt.mul
  split
  · rw [show m = 0 by omega]; rfl
  · split
    · rename_i h
      rcases Bool.or_eq_true_iff.mp h with e | e
      · rw [beq_iff_eq.mp e]; rfl
      · cases e
    · exact rep_fold 48 m.toNat #[]
local macro_rules | `(tactic| tm_at "rs") => `(tactic| first | with_reducible refine w_revL ?_ | ((with_reducible refine' w_revE ?h (fun _ _ _ _ _ => ?k)); (case h => tm_at "rsq")) | with_reducible refine w_orT ?_ | fail "no")

theorem and_and {x y : Int} (x0 : 0 ≤ x) (y0 : 0 ≤ y) : Builtin.bitAnd x (Builtin.bitAnd x y) = Builtin.bitAnd x y := by
  obtain ⟨p, rfl⟩ := Int.eq_ofNat_of_zero_le x0
  obtain ⟨q, rfl⟩ := Int.eq_ofNat_of_zero_le y0
  rw [and_nat, and_nat, ← Nat.and_assoc, Nat.and_self]
theorem xor_and {x y : Int} (x0 : 0 ≤ x) (y0 : 0 ≤ y) : Builtin.bitXor x (Builtin.bitAnd x y) = x - Builtin.bitAnd x y := by
  rw [bitXor_and, and_and x0 y0]
  omega
/-! bits of a number: how many, which -/
theorem and_mod2 {a b : Nat} (h : b % 2 = 0) : (a &&& b) % 2 = 0 := by
  have e : (a &&& b).testBit 0 = (a.testBit 0 && b.testBit 0) := Nat.testBit_and ..
  rw [Nat.testBit_zero, Nat.testBit_zero, Nat.testBit_zero] at e
  rw [decide_eq_false (show ¬ b % 2 = 1 by omega), Bool.and_false] at e
  have := of_decide_eq_false e
  omega
def pc : Nat → Nat
  | 0 => 0
  | n + 1 => (n + 1) % 2 + pc ((n + 1) / 2)
termination_by n => n
decreasing_by omega
theorem pc_eq (n : Nat) : pc n = n % 2 + pc (n / 2) := by
  cases n with
  | zero => rw [pc]
  | succ n => rw [pc]
theorem pc_and (n : Nat) (h : 0 < n) : pc (n &&& (n - 1)) + 1 = pc n := by
  induction n using Nat.strongRecOn with
  | ind n ih =>
    have hd : (n &&& (n - 1)) / 2 = n / 2 &&& (n - 1) / 2 := Nat.and_div_two
    by_cases ho : n % 2 = 1
    · rw [pc_eq (n &&& (n - 1)), pc_eq n, and_mod2 (show (n - 1) % 2 = 0 by omega), hd, show (n - 1) / 2 = n / 2 by omega, Nat.and_self, ho]
      omega
    · have hm : (n &&& (n - 1)) % 2 = 0 := by rw [Nat.and_comm]; exact and_mod2 (by omega)
      have := ih (n / 2) (by omega) (by omega)
      rw [pc_eq (n &&& (n - 1)), pc_eq n, hm, hd, show (n - 1) / 2 = n / 2 - 1 by omega]
      omega
def bpos (n i : Nat) : List Nat := (List.range i).filter n.testBit
theorem bpos_succ (n i : Nat) : bpos n (i + 1) = (if n % 2 = 1 then [0] else []) ++ (bpos (n / 2) i).map Nat.succ := by
  unfold bpos
  rw [List.range_succ_eq_map, List.filter_cons, List.filter_map, Nat.testBit_zero]
  have e : (fun t => n.testBit t) ∘ Nat.succ = (n / 2).testBit := by
    funext t
    show n.testBit (t + 1) = _
    rw [Nat.testBit_succ]
  rw [show (n.testBit ∘ Nat.succ) = (n / 2).testBit from e]
  by_cases h : n % 2 = 1
  · rw [if_pos h, if_pos (decide_eq_true h)]; rfl
  · rw [if_neg h, if_neg (by rw [decide_eq_false h]; decide)]; rfl
theorem bpos_len : ∀ (i n : Nat), n < 2 ^ i → (bpos n i).length = pc n
  | 0, n, h => by
    rw [Nat.pow_zero] at h
    rw [show n = 0 by omega, pc]; rfl
  | i + 1, n, h => by
    rw [Nat.pow_succ] at h
    rw [bpos_succ, List.length_append, List.length_map, bpos_len i (n / 2) (by omega), pc_eq n]
    by_cases h : n % 2 = 1
    · rw [if_pos h, h]; rfl
    · rw [if_neg h, show n % 2 = 0 by omega]; rfl
def psm (l : List Nat) : Nat := (l.map fun t => 2 ^ t).sum
theorem psm_succ : ∀ l : List Nat, psm (l.map Nat.succ) = 2 * psm l
  | [] => rfl
  | x :: l => by
    have h := psm_succ l
    unfold psm at h ⊢
    rw [List.map_cons, List.map_cons, List.map_cons, List.sum_cons, List.sum_cons, h, Nat.mul_add]
    show 2 ^ (x + 1) + _ = _
    rw [Nat.pow_succ, Nat.mul_comm]
theorem bpos_sum : ∀ (i n : Nat), n < 2 ^ i → psm (bpos n i) = n
  | 0, n, h => by
    rw [Nat.pow_zero] at h
    rw [show n = 0 by omega]; rfl
  | i + 1, n, h => by
    rw [Nat.pow_succ] at h
    have e : psm (bpos n (i + 1)) = (if n % 2 = 1 then 1 else 0) + psm ((bpos (n / 2) i).map Nat.succ) := by
      rw [bpos_succ]
      unfold psm
      rw [List.map_append, List.sum_append]
      congr 1
      by_cases h : n % 2 = 1
      · rw [if_pos h, if_pos h]; rfl
      · rw [if_neg h, if_neg h]; rfl
    rw [e, psm_succ, bpos_sum i (n / 2) (by omega)]
    by_cases h : n % 2 = 1
    · rw [if_pos h]; omega
    · rw [if_neg h]; omega
theorem bpos_step (n i : Nat) : bpos n (i + 1) = bpos n i ++ (if n / 2 ^ i % 2 = 1 then [i] else []) := by
  unfold bpos
  rw [List.range_succ, List.filter_append, List.filter_cons]
  congr 1
  have e : n.testBit i = decide (n / 2 ^ i % 2 = 1) := Nat.testBit_eq_decide_div_mod_eq
  rw [e]
  by_cases h : n / 2 ^ i % 2 = 1
  · rw [if_pos h, if_pos (decide_eq_true h)]; rfl
  · rw [if_neg h, if_neg (by rw [decide_eq_false h]; decide)]; rfl

/-! how often 1 stands among a number's bits -/
theorem cnt_app (c : Nat) (b : List Nat) : ∀ a : List Nat, cnt c (a ++ b) = cnt c a + cnt c b
  | [] => by rw [List.nil_append, cnt_nil]; omega
  | x :: a => by
    rw [List.cons_append, cnt_cons, cnt_cons, cnt_app c b a]
    omega
theorem cnt_bl (n : Nat) : cnt 49 (bl n) = (pc n : Nat) := by
  induction n using Nat.strongRecOn with
  | _ n ih =>
    rcases Nat.eq_zero_or_pos n with h0 | h0
    · subst h0
      have e : bl 0 = [] := by unfold bl; rfl
      have e2 : pc 0 = 0 := by unfold pc; rfl
      rw [e, e2, cnt_nil]
      rfl
    · rw [bl_eq h0, cnt_app, ih (n / 2) (by omega), pc_eq n, cnt_cons, cnt_nil]
      rcases (show n % 2 = 0 ∨ n % 2 = 1 by omega) with h | h
      · rw [h, if_neg (by decide)]
        omega
      · rw [h, if_pos rfl]
        omega
theorem cnt_btl (n : Nat) : cnt 49 (btl n) = (pc n : Nat) := by
  unfold btl
  split
  · rename_i h
    subst h
    have e2 : pc 0 = 0 := by unfold pc; rfl
    rw [e2, cnt_cons, cnt_nil, if_neg (by decide)]
    rfl
  · exact cnt_bl n
def CntE (Q : VK) (x y : V) (H : Hp) : Prop := ∃ a b, x = .str a ∧ [y] = [.str b] ∧ Q (.int (Txt.count a b)) H
theorem w_cnt {to te : TE} {σ : L2.St} {H : Hp} {Q : VK} (k : to σ H fun x H1 => (∃ a, x = .str a) ∧ te σ H1 fun y H2 => CntE Q x y H2) : tM1 (fun x xs H Q => ∃ a b, x = .str a ∧ xs = [.str b] ∧ Q (.int (Txt.count a b)) H) to te σ H Q := k
theorem w_cntE {H : Hp} {Q : VK} {a b : Str} (k : Q (.int (Txt.count a b)) H) : CntE Q (.str a) (.str b) H := ⟨a, b, rfl, rfl, k⟩
theorem count_one (z : Str) : Txt.count z (Str.ofString "1") = cnt 49 z.cps.toList := count_is z 49
local macro_rules | `(tactic| tm_at "rs") => `(tactic| first | with_reducible refine w_cnt ?_ | with_reducible refine w_isS ?_ | with_reducible refine w_cntE ?_ | fail "no")

/-! how often a number can be halved -/
def v2 (n : Nat) : Nat := if h : n = 0 then 0 else if n % 2 = 0 then v2 (n / 2) + 1 else 0
termination_by n
decreasing_by omega
theorem v2_even {n : Nat} (h0 : n ≠ 0) (h : n % 2 = 0) : v2 n = v2 (n / 2) + 1 := by
  rw [v2, dif_neg h0, if_pos h]
theorem v2_odd {n : Nat} (h : n % 2 = 1) : v2 n = 0 := by
  rw [v2]
  split
  · rfl
  · rw [if_neg (by omega)]
theorem v2_pow {o : Nat} (h : o % 2 = 1) : ∀ k : Nat, v2 (o * 2 ^ k) = k
  | 0 => by rw [Nat.pow_zero, Nat.mul_one]; exact v2_odd h
  | k + 1 => by
    have e : o * 2 ^ (k + 1) = 2 * (o * 2 ^ k) := by rw [Nat.pow_succ]; rw [Nat.mul_comm 2, Nat.mul_assoc]
    have h1 : 0 < o * 2 ^ k := Nat.mul_pos (by omega) (Nat.two_pow_pos k)
    rw [e, v2_even (by omega) (by omega), Nat.mul_div_cancel_left _ (by decide), v2_pow h k]

/-! carries -/
def cr (a b c : Nat) : Nat := if h : a = 0 ∧ b = 0 then 0 else (a % 2 + b % 2 + c) / 2 + cr (a / 2) (b / 2) ((a % 2 + b % 2 + c) / 2)
termination_by a + b
decreasing_by omega
theorem cr_zero (c : Nat) : cr 0 0 c = 0 := by rw [cr]; rfl
theorem cr_step {a b : Nat} (c : Nat) (h : ¬ (a = 0 ∧ b = 0)) : cr a b c = (a % 2 + b % 2 + c) / 2 + cr (a / 2) (b / 2) ((a % 2 + b % 2 + c) / 2) := by
  rw [cr, dif_neg h]
theorem cr_comm (a b c : Nat) : cr a b c = cr b a c := by
  induction h : a + b using Nat.strongRecOn generalizing a b c with
  | _ n ih =>
    by_cases h0 : a = 0 ∧ b = 0
    · rw [h0.1, h0.2]
    · rw [cr_step c h0, cr_step c (fun z => h0 ⟨z.2, z.1⟩), Nat.add_comm (b % 2) (a % 2)]
      rw [ih _ (by omega) (a / 2) (b / 2) ((a % 2 + b % 2 + c) / 2) rfl]
theorem cr_twice (a b : Nat) : cr (2 * a) (2 * b) 0 = cr a b 0 := by
  by_cases h0 : a = 0 ∧ b = 0
  · rw [h0.1, h0.2]
  · rw [cr_step (a := 2 * a) (b := 2 * b) 0 (by omega)]
    rw [show (2 * a % 2 + 2 * b % 2 + 0) / 2 = 0 by omega, show 2 * a / 2 = a by omega, show 2 * b / 2 = b by omega, Nat.zero_add]
theorem and_half (a b : Nat) : (a &&& b) % 2 = (a % 2) * (b % 2) ∧ (a &&& b) / 2 = (a / 2) &&& (b / 2) := by
  constructor
  · have h := Nat.and_mod_two_pow (a := a) (b := b) (n := 1)
    rw [show (2 : Nat) ^ 1 = 2 from rfl] at h
    rw [h]
    rcases Nat.mod_two_eq_zero_or_one a with e | e <;> rcases Nat.mod_two_eq_zero_or_one b with f | f <;> rw [e, f] <;> rfl
  · have h := Nat.and_div_two_pow (a := a) (b := b) (n := 1)
    exact h
theorem cr_none (a b : Nat) (h : a &&& b = 0) : cr a b 0 = 0 := by
  induction hs : a + b using Nat.strongRecOn generalizing a b with
  | _ n ih =>
    by_cases h0 : a = 0 ∧ b = 0
    · rw [h0.1, h0.2]; exact cr_zero 0
    · obtain ⟨e1, e2⟩ := and_half a b
      rw [h] at e1 e2
      have e3 : (a % 2 + b % 2 + 0) / 2 = 0 := by
        rcases Nat.mod_two_eq_zero_or_one a with e | e <;> rcases Nat.mod_two_eq_zero_or_one b with f | f <;> rw [e, f] at e1 ⊢ <;> first | rfl | (simp at e1)
      rw [cr_step 0 h0, e3, ih _ (by omega) (a / 2) (b / 2) (by rw [← e2]) rfl]

theorem and_mask (a n : Nat) : Builtin.bitAnd (a : Int) (((2 ^ n : Nat) : Int) - 1) = ((a % 2 ^ n : Nat) : Int) := by
  have h := Nat.two_pow_pos n
  rw [show ((2 ^ n : Nat) : Int) - 1 = ((2 ^ n - 1 : Nat) : Int) by omega, and_nat, Nat.and_two_pow_sub_one_eq_mod]
theorem fig57 {n j : Nat} : Builtin.bitAnd ((((2 ^ (n + 1) + 1) ^ n : Nat) : Int) / 2 ^ ((n + 1) * j)) (((2 ^ (n + 1) : Nat) : Int) - 1) = (ch n j : Nat) := by
  have e : (2 : Int) ^ ((n + 1) * j) = ((2 ^ ((n + 1) * j) : Nat) : Int) := by rw [Int.natCast_pow]; rfl
  rw [e, ← Int.natCast_ediv, and_mask, Nat.pow_mul]
  rw [fig_pow (u := 2 ^ (n + 1)) (n := n) (Nat.pow_lt_pow_right (by decide) (by omega)) j]
theorem size57 {n : Nat} (h : n ≤ 1000) : (2 ^ (n + 1) + 1) ^ n < 2 ^ 1003000 := by
  have h1 : 2 ^ (n + 1) + 1 ≤ 2 ^ (n + 2) := by
    have := Nat.two_pow_pos (n + 1)
    rw [Nat.pow_succ 2 (n + 1)]
    omega
  refine Nat.lt_of_le_of_lt (Nat.pow_le_pow_left h1 n) ?_
  rw [← Nat.pow_mul]
  apply Nat.pow_lt_pow_right (by decide)
  have : (n + 2) * n ≤ 1002 * 1000 := Nat.mul_le_mul (by omega) h
  omega
/-! which choosing numbers are odd -/
theorem v2_double {n : Nat} (h : 0 < n) : v2 (2 * n) = v2 n + 1 := by
  rw [v2_even (by omega) (by omega), Nat.mul_div_cancel_left _ (by decide)]
theorem v2_mul : ∀ (a b : Nat), 0 < a → 0 < b → v2 (a * b) = v2 a + v2 b := by
  intro a b ha hb
  induction hs : a + b using Nat.strongRecOn generalizing a b with
  | _ n ih =>
    rcases Nat.mod_two_eq_zero_or_one a with e | e
    · obtain ⟨c, rfl⟩ : ∃ c, a = 2 * c := ⟨a / 2, by omega⟩
      have hc : 0 < c := by omega
      rw [Nat.mul_assoc, v2_double (Nat.mul_pos hc hb), v2_double hc, ih _ (by omega) c b hc hb rfl]
      omega
    · rcases Nat.mod_two_eq_zero_or_one b with f | f
      · obtain ⟨c, rfl⟩ : ∃ c, b = 2 * c := ⟨b / 2, by omega⟩
        have hc : 0 < c := by omega
        rw [Nat.mul_left_comm, v2_double (Nat.mul_pos ha hc), v2_double hc, ih _ (by omega) a c ha hc rfl]
        omega
      · have h : (a * b) % 2 = 1 := by rw [Nat.mul_mod, e, f]
        rw [v2_odd h, v2_odd e, v2_odd f]
theorem v2_zero_iff {n : Nat} (h : 0 < n) : v2 n = 0 ↔ n % 2 = 1 := by
  rcases Nat.mod_two_eq_zero_or_one n with e | e
  · rw [v2_even (by omega) e]; omega
  · rw [v2_odd e]; omega
theorem ch_two : ∀ n : Nat, (∀ k, ch (2 * n) (2 * k) % 2 = ch n k % 2) ∧ (∀ k, ch (2 * n) (2 * k + 1) % 2 = 0)
  | 0 => by
    refine ⟨fun k => ?_, fun k => rfl⟩
    cases k with
    | zero => rfl
    | succ k => rfl
  | n + 1 => by
    obtain ⟨h1, h2⟩ := ch_two n
    have c1 : ∀ k, ch (2 * n + 1) (2 * k) % 2 = ch n k % 2 := fun k => by
      cases k with
      | zero => rw [Nat.mul_zero, ch_zero, ch_zero]
      | succ k =>
        rw [show 2 * (k + 1) = 2 * k + 1 + 1 by omega, ch_succ, Nat.add_mod, h2 k, show 2 * k + 1 + 1 = 2 * (k + 1) by omega, h1 (k + 1)]
        omega
    have c2 : ∀ k, ch (2 * n + 1) (2 * k + 1) % 2 = ch n k % 2 := fun k => by
      rw [ch_succ, Nat.add_mod, h1 k, h2 k]
      omega
    refine ⟨fun k => ?_, fun k => ?_⟩
    · cases k with
      | zero => rw [Nat.mul_zero, ch_zero, ch_zero]
      | succ k =>
        rw [show 2 * (n + 1) = 2 * n + 1 + 1 by omega, show 2 * (k + 1) = 2 * k + 1 + 1 by omega, ch_succ, Nat.add_mod, c2 k, show 2 * k + 1 + 1 = 2 * (k + 1) by omega, c1 (k + 1), ch_succ n k, Nat.add_mod (ch n k)]
    · rw [show 2 * (n + 1) = 2 * n + 1 + 1 by omega, ch_succ, Nat.add_mod, c1 k, c2 k]
      omega
theorem ch_two1 (n k : Nat) : ch (2 * n + 1) (2 * k) % 2 = ch n k % 2 ∧ ch (2 * n + 1) (2 * k + 1) % 2 = ch n k % 2 := by
  obtain ⟨h1, h2⟩ := ch_two n
  constructor
  · cases k with
    | zero => rw [Nat.mul_zero, ch_zero, ch_zero]
    | succ k =>
      rw [show 2 * (k + 1) = 2 * k + 1 + 1 by omega, ch_succ, Nat.add_mod, h2 k, show 2 * k + 1 + 1 = 2 * (k + 1) by omega, h1 (k + 1)]
      omega
  · rw [ch_succ, Nat.add_mod, h1 k, h2 k]
    omega
theorem and_eq_half (k n : Nat) : (k &&& n = k) ↔ (k % 2 * (n % 2) = k % 2 ∧ (k / 2) &&& (n / 2) = k / 2) := by
  obtain ⟨e1, e2⟩ := and_half k n
  constructor
  · intro h
    rw [h] at e1 e2
    exact ⟨e1.symm, e2.symm⟩
  · rintro ⟨h1, h2⟩
    rw [h1] at e1
    rw [h2] at e2
    omega
/-- the choosing number of n and k is odd just where k fits under n -/
theorem lucas : ∀ (n k : Nat), ch n k % 2 = 1 ↔ k &&& n = k := by
  intro n
  induction n using Nat.strongRecOn with
  | _ n ih =>
    intro k
    by_cases hn : n = 0
    · subst hn
      cases k with
      | zero => exact ⟨fun _ => rfl, fun _ => rfl⟩
      | succ k => rw [Nat.and_zero]; exact ⟨fun h => (by cases h), fun h => (by omega)⟩
    · have i := ih (n / 2) (by omega) (k / 2)
      have hc := and_eq_half k n
      obtain ⟨h1, h2⟩ := ch_two (n / 2)
      have h3 := ch_two1 (n / 2) (k / 2)
      rcases Nat.mod_two_eq_zero_or_one n with e | e <;> rcases Nat.mod_two_eq_zero_or_one k with f | f
      · have g := h1 (k / 2)
        rw [show 2 * (n / 2) = n by omega, show 2 * (k / 2) = k by omega] at g
        rw [g, i, hc, e, f]; simp
      · have g := h2 (k / 2)
        rw [show 2 * (n / 2) = n by omega, show 2 * (k / 2) + 1 = k by omega] at g
        rw [g, hc, e, f]; simp
      · have g := h3.1
        rw [show 2 * (n / 2) + 1 = n by omega, show 2 * (k / 2) = k by omega] at g
        rw [g, i, hc, e, f]; simp
      · have g := h3.2
        rw [show 2 * (n / 2) + 1 = n by omega, show 2 * (k / 2) + 1 = k by omega] at g
        rw [g, i, hc, e, f]; simp
/-- Kummer: halved as often as there are carries -/
theorem desc_pos {n : Nat} : ∀ j, j ≤ n → 0 < desc n j
  | 0, _ => by show 0 < 1; decide
  | j + 1, h => Nat.mul_pos (desc_pos j (by omega)) (by omega)
theorem v2_ch {n j : Nat} (h : j ≤ n) : v2 (desc n j) = v2 (ch n j) + v2 (fac j) := by
  rw [desc_ch n j h]
  exact v2_mul _ _ (ch_pos n j h) (fac_pos j)

/-! halved as often as there are carries -/
theorem v2_fac : ∀ n : Nat, v2 (fac n) = n / 2 + v2 (fac (n / 2))
  | 0 => by show v2 1 = 0 / 2 + v2 1; omega
  | n + 1 => by
    have ih := v2_fac n
    rw [show fac (n + 1) = fac n * (n + 1) from rfl, v2_mul _ _ (fac_pos n) (by omega)]
    rcases Nat.mod_two_eq_zero_or_one (n + 1) with e | e
    · obtain ⟨m, hm⟩ : ∃ m, n + 1 = 2 * (m + 1) := ⟨(n + 1) / 2 - 1, by omega⟩
      rw [hm, v2_double (by omega), show 2 * (m + 1) / 2 = m + 1 by omega, show fac (m + 1) = fac m * (m + 1) from rfl, v2_mul _ _ (fac_pos m) (by omega)]
      rw [show n / 2 = m by omega] at ih
      omega
    · rw [v2_odd e, show (n + 1) / 2 = n / 2 by omega]
      omega
theorem fac_carry (a b c : Nat) (hc : c ≤ 1) : v2 (fac (a + b + c)) = v2 (fac a) + v2 (fac b) + cr a b c := by
  induction h : a + b using Nat.strongRecOn generalizing a b c with
  | _ n ih =>
    by_cases h0 : a = 0 ∧ b = 0
    · rw [h0.1] at h; rw [h0.2] at h
      subst h
      rw [h0.1, h0.2, cr_zero]
      have : c = 0 ∨ c = 1 := by omega
      rcases this with rfl | rfl
      · show v2 1 = v2 1 + v2 1 + 0; rw [v2_odd (n := 1) rfl]
      · show v2 1 = v2 1 + v2 1 + 0; rw [v2_odd (n := 1) rfl]
    · have i := ih (a / 2 + b / 2) (by omega) (a / 2) (b / 2) ((a % 2 + b % 2 + c) / 2) (by omega) rfl
      rw [cr_step c h0, v2_fac (n + c), v2_fac a, v2_fac b, show (n + c) / 2 = a / 2 + b / 2 + (a % 2 + b % 2 + c) / 2 by omega, i]
      omega
theorem fac_desc (n : Nat) : ∀ j, j ≤ n → desc n j * fac (n - j) = fac n
  | 0, _ => by rw [show desc n 0 = 1 from rfl, Nat.one_mul, Nat.sub_zero]
  | j + 1, h => by
    rw [← fac_desc n j (by omega), show n - j = n - (j + 1) + 1 by omega, show fac (n - (j + 1) + 1) = fac (n - (j + 1)) * (n - (j + 1) + 1) from rfl, show desc n (j + 1) = desc n j * (n - j) from rfl, show n - j = n - (j + 1) + 1 by omega, Nat.mul_assoc, Nat.mul_comm (n - (j + 1) + 1)]
theorem kummer (a b : Nat) : v2 (ch (a + b) a) = cr a b 0 := by
  have h1 := fac_desc (a + b) a (by omega)
  rw [desc_ch _ _ (by omega), show a + b - a = b by omega] at h1
  have h2 := fac_carry a b 0 (by omega)
  rw [Nat.add_zero, ← h1, v2_mul _ _ (Nat.mul_pos (ch_pos _ _ (by omega)) (fac_pos a)) (fac_pos b), v2_mul _ _ (ch_pos _ _ (by omega)) (fac_pos a)] at h2
  omega
theorem cr_zero_iff (a b : Nat) : cr a b 0 = 0 ↔ a &&& b = 0 := by
  constructor
  · intro h
    induction hs : a + b using Nat.strongRecOn generalizing a b with
    | _ n ih =>
      by_cases h0 : a = 0 ∧ b = 0
      · rw [h0.1, h0.2]; rfl
      · rw [cr_step 0 h0] at h
        have hc : (a % 2 + b % 2 + 0) / 2 = 0 := by omega
        rw [hc, Nat.zero_add] at h
        have i := ih _ (by omega) (a / 2) (b / 2) h rfl
        obtain ⟨e1, e2⟩ := and_half a b
        have e3 : a % 2 * (b % 2) = 0 := by
          rcases Nat.mod_two_eq_zero_or_one a with e | e <;> rcases Nat.mod_two_eq_zero_or_one b with f | f <;> rw [e, f] at hc ⊢ <;> first | rfl | (simp at hc)
        rw [e3] at e1
        rw [i] at e2
        omega
  · exact cr_none a b
theorem fit_sum (a b : Nat) : a &&& (a + b) = a ↔ cr a b 0 = 0 := by
  rw [← lucas, ← kummer, v2_zero_iff (ch_pos _ _ (by omega))]

theorem w58 {n j : Int} (h0 : 0 ≤ n) (j0 : 0 ≤ j) : 0 < ((ch (n + j).toNat n.toNat : Nat) : Int) ∧ v2 ((ch (n + j).toNat n.toNat : Nat) : Int).toNat = cr n.toNat j.toNat 0 ∧ ch (n + j).toNat j.toNat = ch (n + j).toNat n.toNat ∧ cr j.toNat n.toNat 0 = cr n.toNat j.toNat 0 ∧ (Builtin.bitAnd n (n + j) = n ↔ ((cr n.toNat j.toNat 0 : Nat) : Int) = 0) ∧ (Builtin.bitAnd n j = 0 ↔ ((cr n.toNat j.toNat 0 : Nat) : Int) = 0) := by
  obtain ⟨p, rfl⟩ := Int.eq_ofNat_of_zero_le h0
  obtain ⟨q, rfl⟩ := Int.eq_ofNat_of_zero_le j0
  have e : (p : Int) + q = ((p + q : Nat) : Int) := rfl
  rw [e]
  simp only [Int.toNat_natCast]
  rw [and_nat, and_nat]
  refine ⟨?_, kummer p q, ?_, cr_comm _ _ _, ?_, ?_⟩
  · have := ch_pos (p + q) p (by omega); omega
  · rw [ch_symm (p + q) p (by omega), show p + q - p = q by omega]
  · have := fit_sum p q
    omega
  · have := cr_zero_iff p q
    omega
theorem psm_split (p : Nat → Bool) : ∀ l : List Nat, psm (l.filter p) + psm (l.filter fun t => !p t) = psm l
  | [] => rfl
  | x :: l => by
    have h := psm_split p l
    have c : ∀ (a : Nat) (k : List Nat), psm (a :: k) = 2 ^ a + psm k := fun a k => by
      unfold psm
      rw [List.map_cons, List.sum_cons]
    rw [List.filter_cons, List.filter_cons, c]
    cases p x
    · rw [if_neg (by decide : ¬ (false = true)), if_pos (by decide : (!false) = true), c]; omega
    · rw [if_pos (by decide : true = true), if_neg (by decide : ¬ ((!true) = true)), c]; omega
def lone (n m i : Nat) : List Nat := (bpos n i).filter fun t => !m.testBit t
theorem lone_xor (n m i : Nat) : lone n m i = bpos (n ^^^ (n &&& m)) i := by
  unfold lone bpos
  rw [List.filter_filter]
  congr 1
  funext t
  rw [Nat.testBit_xor, Nat.testBit_and]
  cases n.testBit t <;> cases m.testBit t <;> rfl
theorem w20 {n m i : Nat} (h : n < 2 ^ i) : psm (lone n m i) = n - (n &&& m) ∧ (lone n m i).length = pc (n - (n &&& m)) ∧ (n &&& m = n ↔ lone n m i = []) ∧ (n - (n &&& m)) &&& n = n - (n &&& m) := by
  have ha : n &&& m < 2 ^ i := Nat.lt_of_le_of_lt Nat.and_le_left h
  have hx : n ^^^ (n &&& m) < 2 ^ i := Nat.xor_lt_two_pow h ha
  have hr : psm (lone n m i) = n ^^^ (n &&& m) := by rw [lone_xor, bpos_sum i _ hx]
  have hs : psm ((bpos n i).filter m.testBit) = n &&& m := by
    have e : (bpos n i).filter m.testBit = bpos (n &&& m) i := by
      unfold bpos
      rw [List.filter_filter]
      congr 1
      funext t
      rw [Nat.testBit_and, Bool.and_comm]
    rw [e, bpos_sum i _ ha]
  have hp := psm_split m.testBit (bpos n i)
  rw [bpos_sum i n h, hs] at hp
  have hp2 : (n &&& m) + psm (lone n m i) = n := hp
  have hxr : n ^^^ (n &&& m) = n - (n &&& m) := by omega
  have hl : (lone n m i).length = pc (n - (n &&& m)) := by rw [← hxr, lone_xor, bpos_len i _ hx]
  refine ⟨by omega, hl, ⟨fun e => ?_, fun e => ?_⟩, ?_⟩
  · rw [e, Nat.sub_self, pc] at hl
    exact List.length_eq_zero_iff.mp hl
  · rw [e] at hp2
    have : psm [] = 0 := rfl
    omega
  · rw [← hxr]
    refine Nat.eq_of_testBit_eq fun t => ?_
    rw [Nat.testBit_and, Nat.testBit_xor, Nat.testBit_and]
    cases n.testBit t <;> cases m.testBit t <;> rfl
theorem valV_has {kvs : List (Key × V)} {k : Key} : (valV kvs k).isSome = true ↔ ∃ p ∈ kvs, p.1 = k := by
  unfold valV
  rw [Option.isSome_map, List.find?_isSome]
  constructor
  · rintro ⟨p, h, e⟩; exact ⟨p, h, of_decide_eq_true e⟩
  · rintro ⟨p, h, e⟩; exact ⟨p, h, decide_eq_true e⟩
theorem putK_has {kvs : List (Key × V)} {k0 k : Key} {v : V} : (∃ p ∈ putK kvs k0 v, p.1 = k) ↔ (k0 = k ∨ ∃ p ∈ kvs, p.1 = k) := by
  unfold putK
  split
  · rename_i h
    obtain ⟨q, hq, eq⟩ := List.any_eq_true.mp h
    have eq := of_decide_eq_true eq
    constructor
    · rintro ⟨p, hp, rfl⟩
      obtain ⟨r, hr, rfl⟩ := List.mem_map.mp hp
      refine .inr ⟨r, hr, ?_⟩
      split <;> rfl
    · rintro (rfl | ⟨p, hp, rfl⟩)
      · exact ⟨_, List.mem_map.mpr ⟨q, hq, rfl⟩, by rw [if_pos eq]; exact eq⟩
      · exact ⟨_, List.mem_map.mpr ⟨p, hp, rfl⟩, by split <;> rfl⟩
  · constructor
    · rintro ⟨p, hp, rfl⟩
      rcases List.mem_append.mp hp with hp | hp
      · exact .inr ⟨p, hp, rfl⟩
      · rw [List.mem_singleton.mp hp]; exact .inl rfl
    · rintro (rfl | ⟨p, hp, rfl⟩)
      · exact ⟨_, List.mem_append.mpr (.inr (List.mem_singleton.mpr rfl)), rfl⟩
      · exact ⟨p, List.mem_append.mpr (.inl hp), rfl⟩
theorem merge_has {k : Key} : ∀ (more kvs : List (Key × V)), (∃ p ∈ mergeK kvs more, p.1 = k) ↔ ((∃ p ∈ kvs, p.1 = k) ∨ ∃ p ∈ more, p.1 = k)
  | [], kvs => by
    show (∃ p ∈ kvs, p.1 = k) ↔ _
    simp
  | q :: more, kvs => by
    have h := merge_has (k := k) more (putK kvs q.1 q.2)
    show (∃ p ∈ mergeK (putK kvs q.1 q.2) more, p.1 = k) ↔ _
    rw [h, putK_has]
    simp only [List.mem_cons, exists_eq_or_imp]
    constructor
    · rintro ((e | e) | e)
      · exact .inr (.inl e)
      · exact .inl e
      · exact .inr (.inr e)
    · rintro (e | e | e)
      · exact .inl (.inr e)
      · exact .inl (.inl e)
      · exact .inr e
def bkv (l : List Nat) : List (Key × V) := l.map fun t => (Sum.inl ((t : Nat) : Int), V.bl true)
theorem bkv_has {m j t : Nat} (h : m < 2 ^ j) : (valV (mergeK [] (bkv (bpos m j))) (Sum.inl ((t : Nat) : Int))).isSome = m.testBit t := by
  have e : (valV (mergeK [] (bkv (bpos m j))) (Sum.inl ((t : Nat) : Int))).isSome = true ↔ m.testBit t = true := by
    rw [valV_has, merge_has]
    constructor
    · rintro (⟨p, hp, _⟩ | ⟨p, hp, e⟩)
      · cases hp
      · obtain ⟨s, hs, rfl⟩ := List.mem_map.mp hp
        have e : s = t := by have := Sum.inl.inj e; omega
        rw [← e]
        exact (List.mem_filter.mp hs).2
    · intro ht
      refine .inr ⟨_, List.mem_map.mpr ⟨t, List.mem_filter.mpr ⟨?_, ht⟩, rfl⟩, rfl⟩
      rw [List.mem_range]
      rcases Nat.lt_or_ge t j with q | q
      · exact q
      · have := Nat.testBit_lt_two_pow (Nat.lt_of_lt_of_le h (Nat.pow_le_pow_right (by decide) q))
        rw [this] at ht
        cases ht
  cases h1 : (valV (mergeK [] (bkv (bpos m j))) (Sum.inl ((t : Nat) : Int))).isSome <;> cases h2 : m.testBit t
  · rfl
  · rw [h1, h2] at e; have := e.mpr rfl; cases this
  · rw [h1, h2] at e; have := e.mp rfl; cases this
  · rfl
/-! a dict of pairs -/
def gDict (K : PySem.W.Frag) : List V → Hp → VK → Prop := (fun xs H Q => ∃ (a : Addr) (ps : List Addr) (kvs : List (Key × V)), xs = [.ref a] ∧ SqL K H a (ps.map V.ref) ∧ Paired (fun p kv => SqT K H p [kV kv.1, kv.2]) ps kvs ∧ ∀ p, H p = none → Q (.ref p) (upd H p (.dK (mergeK [] kvs))))
theorem call_gDict {X : Cx} {K : PySem.W.Frag} (hK : X.K = K) (hcalm : X.calm = true) : CallR X (.type "dict") (gDict K) := by subst hK; exact call_dictP hcalm
theorem w_gDict {K : PySem.W.Frag} {H : Hp} {Q : VK} {a : Addr} {ps : List Addr} {kvs : List (Key × V)} (h : SqL K H a (ps.map V.ref)) (hp : Paired (fun p kv => SqT K H p [kV kv.1, kv.2]) ps kvs) (k : ∀ p H', H p = none → Sm H H' → H' p = some (.dK (mergeK [] kvs)) → Q (.ref p) H') : gDict K [.ref a] H Q := ⟨a, ps, kvs, rfl, h, hp, fun p hn => k p _ hn (sm_new hn) upd_same⟩
def DNE (y x : V) (Q : VK) (H2 : Hp) : Prop := ∃ a o, x = .ref a ∧ DGet H2 a y o ∧ Q (.bl (!o.isSome)) H2
theorem w_dni {ty td : TE} {σ : L2.St} {H : Hp} {Q : VK} (k : ty σ H fun y H1 => td σ H1 fun x H2 => DNE y x Q H2) : tDNotIn ty td σ H Q := k
theorem w_dne {H : Hp} {Q : VK} {a : Addr} {i : Int} {kvs : List (Key × V)} (h : H a = some (.dK kvs)) (k : Q (.bl (!(valV kvs (.inl i)).isSome)) H) : DNE (.int i) (.ref a) Q H := ⟨a, _, rfl, .inl ⟨kvs, .inl i, .inl h, rfl, rfl⟩, k⟩
theorem u_one {n : Nat} (h : n + 64 < cLine) : n + 1 < cLine := by omega
theorem paired_imp {α β : Type} {F G : α → β → Prop} (h : ∀ p q, F p q → G p q) : ∀ {l : List α} {k : List β}, Paired F l k → Paired G l k
  | _, _, .nil => .nil
  | _, _, .cons a b => .cons (h _ _ a) (paired_imp h b)
theorem nat_at {l : List Nat} {i : Nat} {x : V} (h : (l.map fun t => V.int ((t : Nat) : Int))[i]? = some x) : ∃ t : Nat, l[i]? = some t ∧ x = V.int (t : Int) := by
  rw [List.getElem?_map] at h
  cases e : l[i]? with
  | none => rw [e] at h; cases h
  | some t => rw [e] at h; cases h; exact ⟨t, rfl, rfl⟩
theorem bkv_take {l : List Nat} {i t : Nat} (h : l[i]? = some t) : bkv (l.take (i + 1)) = bkv (l.take i) ++ [(Sum.inl ((t : Nat) : Int), V.bl true)] := by
  unfold bkv
  rw [List.take_succ, h, List.map_append]
  rfl
theorem w_eqNil {K : PySem.W.Frag} {H : Hp} {Q : VK} {a b : Addr} {l : List Nat} (h1 : SqL K H a (l.map fun t => V.int ((t : Nat) : Int))) (h2 : SqL K H b []) (k : Q (.bl (decide (l = []))) H) : gEq K (.ref a) (.ref b) H Q := by
  have e1 : (l.map fun t => V.int ((t : Nat) : Int)) = (l.map fun t : Nat => ((t : Nat) : Int)).map V.int := by rw [List.map_map]; rfl
  rw [e1] at h1
  refine .inr ⟨.list ((l.map fun t : Nat => ((t : Nat) : Int)).map .int), .list (([] : List Int).map .int), .lst h1 (dp_ints _), .lst h2 .nil, PySem.W.ke_shaped_ints _, PySem.W.ke_shaped_ints _, ?_⟩
  have e : PyData.eqv (.list ((l.map fun t : Nat => ((t : Nat) : Int)).map .int)) (.list (([] : List Int).map .int)) = decide (l = []) := by
    rw [PyData.eqv, PySem.W.ked_eqvAll]
    cases l with
    | nil => rfl
    | cons x l => rfl
  rw [e]
  exact k
theorem flt_take {p : Nat → Bool} {l : List Nat} {i t : Nat} (h : l[i]? = some t) : (l.take (i + 1)).filter p = (l.take i).filter p ++ (if p t = true then [t] else []) := by
  rw [List.take_succ, h, List.filter_append]
  congr 1
  show List.filter p [t] = _
  rw [List.filter_cons]
  cases p t <;> rfl
theorem psm_int : ∀ L : List Nat, (L.map fun t : Nat => ((2 ^ t : Nat) : Int)).sum = ((psm L : Nat) : Int)
  | [] => rfl
  | x :: L => by
    have h := psm_int L
    unfold psm at h ⊢
    rw [List.map_cons, List.map_cons, List.sum_cons, List.sum_cons, h, Int.natCast_add]
local macro_rules | `(tactic| tm_at "rs") => `(tactic| first | with_reducible refine w_dni ?_ | ((with_reducible refine' w_dne ?h ?k); (case h => tm_at "rlk")) | ((with_reducible refine' w_eqNil ?h ?i ?k); (case h => tm_at "rsq"); (case i => tm_at "rsq")) | fail "no")

/-! texts of plain signs -/
def Low (z : Str) : Prop := ∀ c ∈ z.cps.toList, c < 128
theorem Low.app {a b : Str} (h : Low a) (k : Low b) : Low (a ++ b) := fun c hc => by
  rw [app_tl] at hc
  rcases List.mem_append.mp hc with hc | hc
  · exact h c hc
  · exact k c hc
theorem Low.cut {z : Str} (h : Low z) (lo hi : Option Int) : Low (cutS z lo hi) := fun c hc => by
  refine h c ?_
  unfold cutS at hc
  have e : ∀ l : List Nat, (⟨l.toArray⟩ : Str).cps.toList = l := fun l => rfl
  rw [e] at hc
  exact List.mem_of_mem_drop (List.mem_of_mem_take hc)
theorem Low.sg {z : Str} {i c : Nat} (h : Low z) (e : z.cps.toList[i]? = some c) : Low (⟨#[c]⟩ : Str) := fun x hx => by
  have hx : x ∈ [c] := hx
  rw [List.mem_singleton.mp hx]
  exact h c (List.mem_of_getElem? e)
theorem signs_low : Low (Str.ofString "abcdefghijklmnopqrstuvwxyz0123456789") := by
  have h : (Str.ofString "abcdefghijklmnopqrstuvwxyz0123456789").cps.toList.all (fun c => decide (c < 128)) = true := by decide +kernel
  intro c hc
  exact of_decide_eq_true (List.all_eq_true.mp h c hc)
theorem zeros_low (m : Int) (h : 0 ≤ m) : Low (Txt.mul (Str.ofString "0") m) := fun c hc => by
  rw [zeros_tl h] at hc
  rw [List.eq_of_mem_replicate hc]
  decide

/-! a dict of names and numbers -/
structure DicOk (kvs : List (Key × V)) (ys : List Str) (M : Nat) : Prop where
  nd : (kvs.map (·.1)).Nodup
  ok : ∀ p ∈ kvs, ∃ (s : Str) (n : Nat), p = (Sum.inr s, V.int (n : Nat)) ∧ n < M ∧ Low s
  has : ∀ y ∈ ys, ∃ p ∈ kvs, p.1 = Sum.inr y
def gOf (kvs : List (Key × V)) (s : Str) : Nat := match valV kvs (.inr s) with
  | some (.int i) => i.toNat
  | _ => 0
theorem valV_some {kvs : List (Key × V)} {k : Key} {v : V} (h : valV kvs k = some v) : (k, v) ∈ kvs := by
  unfold valV at h
  cases e : kvs.find? (fun kv => decide (kv.1 = k)) with
  | none => rw [e] at h; cases h
  | some p =>
    rw [e] at h
    cases h
    have h1 := List.find?_some e
    have h2 := List.mem_of_find?_eq_some e
    have h1 := of_decide_eq_true h1
    obtain ⟨a, b⟩ := p
    have h1 : a = k := h1
    subst h1
    exact h2
theorem DicOk.val {kvs : List (Key × V)} {ys : List Str} {M : Nat} (h : DicOk kvs ys M) {s : Str} (e : (valV kvs (.inr s)).isSome = true) : valV kvs (.inr s) = some (.int (gOf kvs s : Nat)) ∧ gOf kvs s < M := by
  obtain ⟨v, hv⟩ := Option.isSome_iff_exists.mp e
  obtain ⟨s', n, e1, hn, _⟩ := h.ok _ (valV_some hv)
  cases e1
  have hg : gOf kvs s = n := by
    unfold gOf
    rw [hv]
    rfl
  rw [hg]
  exact ⟨hv, hn⟩
theorem DicOk.at {kvs : List (Key × V)} {ys : List Str} {M : Nat} (h : DicOk kvs ys M) {y : Str} (hy : y ∈ ys) : valV kvs (.inr y) = some (.int (gOf kvs y : Nat)) ∧ gOf kvs y < M := h.val (valV_has.mpr (h.has y hy))
theorem DicOk.nil {M : Nat} : DicOk [] [] M := ⟨List.nodup_nil, (by intro p hp; cases hp), (by intro y hy; cases hy)⟩
theorem DicOk.up {kvs : List (Key × V)} {ys : List Str} {M M' : Nat} (h : DicOk kvs ys M) (l : M ≤ M') : DicOk kvs ys M' := ⟨h.nd, fun p hp => by
  obtain ⟨s, n, e, hn, hs⟩ := h.ok p hp
  exact ⟨s, n, e, by omega, hs⟩, h.has⟩
theorem DicOk.sub {kvs : List (Key × V)} {ys zs : List Str} {M : Nat} (h : DicOk kvs ys M) (l : ∀ z ∈ zs, z ∈ ys) : DicOk kvs zs M := ⟨h.nd, h.ok, fun z hz => h.has z (l z hz)⟩
theorem putK_len {kvs : List (Key × V)} {k : Key} {v : V} : (putK kvs k v).length ≤ kvs.length + 1 := by
  unfold putK
  split
  · rw [List.length_map]; omega
  · rw [List.length_append]; exact Nat.le_refl _
theorem DicOk.put {kvs : List (Key × V)} {ys : List Str} {M : Nat} (h : DicOk kvs ys M) (s : Str) (hs : Low s) {n : Nat} (hn : n < M) : DicOk (putK kvs (.inr s) (.int (n : Nat))) (ys ++ [s]) M := by
  refine ⟨?_, ?_, fun y hy => ?_⟩
  · unfold putK
    split
    · rw [List.map_map]
      have e : ((fun x : Key × V => x.1) ∘ fun kv : Key × V => if kv.1 = Sum.inr s then (kv.1, V.int (n : Nat)) else kv) = fun x => x.1 := by
        funext x
        show (if x.1 = Sum.inr s then (x.1, V.int (n : Nat)) else x).1 = x.1
        split <;> rfl
      first | (rw [e]; exact h.nd) | (refine cast ?_ h.nd; congr 1; refine List.map_congr_left fun x _ => ?_; show _ = (if _ then _ else _).1; split <;> rfl)
    · rename_i hno
      rw [List.map_append]
      refine List.nodup_append.mpr ⟨h.nd, by simp, fun x hx y hy => ?_⟩
      have hy : y = Sum.inr s := List.mem_singleton.mp hy
      subst hy
      rintro rfl
      obtain ⟨p, hp, e⟩ := List.mem_map.mp hx
      exact hno (List.any_eq_true.mpr ⟨p, hp, decide_eq_true e⟩)
  · intro p hp
    unfold putK at hp
    split at hp
    · obtain ⟨r, hr, rfl⟩ := List.mem_map.mp hp
      split
      · rename_i e
        exact ⟨s, n, by rw [e], hn, hs⟩
      · exact h.ok r hr
    · rcases List.mem_append.mp hp with hp | hp
      · exact h.ok p hp
      · rw [List.mem_singleton.mp hp]
        exact ⟨s, n, rfl, hn, hs⟩
  · rw [putK_has]
    rcases List.mem_append.mp hy with hy | hy
    · exact .inr (h.has y hy)
    · rw [List.mem_singleton.mp hy]
      exact .inl rfl
/-! a dict copied, two dicts compared -/
def gDictD : List V → Hp → VK → Prop := fun xs H Q => ∃ (a : Addr) (kvs : List (Key × V)), xs = [.ref a] ∧ Rd H a (.dK kvs) ∧ ∀ p, H p = none → Q (.ref p) (upd H p (.dK kvs))
theorem call_gDictD {X : Cx} : CallR X (.type "dict") gDictD := call_dictD
theorem w_dictD {H : Hp} {Q : VK} {a : Addr} {kvs : List (Key × V)} (h : H a = some (.dK kvs)) (k : ∀ p H', H p = none → Sm H H' → H' p = some (.dK kvs) → Q (.ref p) H') : gDictD [.ref a] H Q := ⟨a, kvs, rfl, .inl h, fun p hp => k p _ hp (sm_new hp) upd_same⟩
theorem op_gNeD {X : Cx} (hu : X.A.units + 64 < cLine) : OpR X (compareOp .NotEq) rNeDA := op_ne_dictA (by omega)
theorem valV_nd : ∀ {kvs : List (Key × V)} {p : Key × V}, (kvs.map (·.1)).Nodup → p ∈ kvs → valV kvs p.1 = some p.2
  | q :: r, p, hn, hp => by
    rw [List.map_cons, List.nodup_cons] at hn
    rcases List.mem_cons.mp hp with rfl | hp
    · exact valV_pos rfl
    · rw [valV_neg (fun e => hn.1 (by rw [e]; exact List.mem_map.mpr ⟨p, hp, rfl⟩))]
      exact valV_nd hn.2 hp
theorem w_neD {H : Hp} {Q : VK} {a b : Addr} {kvs : List (Key × V)} {ys : List Str} {M : Nat} (ha : H a = some (.dK kvs)) (hb : H b = some (.dK kvs)) (d : DicOk kvs ys M) (k : Q (.bl false) H) : rNeDA (.ref a) (.ref b) H Q :=
  ⟨a, b, kvs, kvs, rfl, rfl, ha, hb, rfl, fun p hp => by
    obtain ⟨s, n, rfl, _, _⟩ := d.ok p hp
    exact ⟨valV_nd d.nd hp, rfl⟩, k⟩
/-! a dict's items as a list, two such lists compared -/
def valD : V → PyData
  | .int i => .int i
  | _ => .none
def keyD : Key → PyData
  | .inl i => .int i
  | .inr s => .str s
def itD (kvs : List (Key × V)) : List PyData := kvs.map fun p => .tuple [keyD p.1, valD p.2]
theorem itD_ok : ∀ {kvs : List (Key × V)}, (∀ p ∈ kvs, ∃ (s : Str) (n : Nat), p = (Sum.inr s, V.int (n : Nat)) ∧ Low s) → PyData.canLayAll0 (itD kvs) = true ∧ PyData.depthAll (itD kvs) ≤ 1
  | [], _ => ⟨rfl, by decide⟩
  | p :: r, h => by
    obtain ⟨h1, h2⟩ := itD_ok (kvs := r) (fun q hq => h q (List.mem_cons_of_mem _ hq))
    obtain ⟨s, n, rfl, hs⟩ := h p List.mem_cons_self
    have ok : PyData.strOk s = true := by
      unfold PyData.strOk
      rw [← Array.all_toList, List.all_eq_true]
      intro c hc
      have := hs c hc
      exact decide_eq_true (by omega)
    refine ⟨?_, ?_⟩
    · show PyData.canLayAll0 (PyData.tuple [PyData.str s, PyData.int n] :: itD r) = true
      simp [PyData.canLayAll0, PyData.canLay0, ok, h1]
    · show PyData.depthAll (PyData.tuple [PyData.str s, PyData.int n] :: itD r) ≤ 1
      simp only [PyData.depthAll, PyData.depth]
      omega
theorem itD_dp {K : PySem.W.Frag} {H : Hp} : ∀ {ts : List Addr} {kvs : List (Key × V)}, (∀ p ∈ kvs, ∃ (s : Str) (n : Nat), p = (Sum.inr s, V.int (n : Nat)) ∧ Low s) → Paired (fun (t : Addr) (q : Key × V) => H t = some (.tup [kV q.1, q.2])) ts kvs → DpAll K H (ts.map V.ref) (itD kvs)
  | _, [], _, .nil => .nil
  | t :: ts, p :: r, h, .cons a b => by
    have ih := itD_dp (K := K) (fun q hq => h q (List.mem_cons_of_mem _ hq)) b
    obtain ⟨s, n, rfl, _⟩ := h p List.mem_cons_self
    exact .cons (.tup (st_of a) (.cons (.str s) (.cons (.int n) .nil))) ih
theorem w_neSame {K : PySem.W.Frag} {H : Hp} {Q : VK} {x y : V} {d : PyData} (h1 : Dp K H x d) (h2 : Dp K H y d) (s : SeqAt.shaped d = true) (k : Q (.bl false) H) : gNe K x y H Q := by
  refine .inr ⟨d, d, h1, h2, s, s, ?_⟩
  rw [PySem.SeqAt.eqv_refl d (SeqAt.canLay_of_shaped s)]
  exact k
theorem itD_shaped {kvs : List (Key × V)} (h : ∀ p ∈ kvs, ∃ (s : Str) (n : Nat), p = (Sum.inr s, V.int (n : Nat)) ∧ Low s) : SeqAt.shaped (.list (itD kvs)) = true := by
  obtain ⟨h1, h2⟩ := itD_ok h
  unfold SeqAt.shaped
  rw [Bool.and_eq_true, decide_eq_true_eq]
  refine ⟨by simp [PyData.canLay0, h1], ?_⟩
  simp only [PyData.depth]
  omega
theorem DicOk.low {kvs : List (Key × V)} {ys : List Str} {M : Nat} (h : DicOk kvs ys M) : ∀ p ∈ kvs, ∃ (s : Str) (n : Nat), p = (Sum.inr s, V.int (n : Nat)) ∧ Low s := fun p hp => by
  obtain ⟨s, n, e, _, hs⟩ := h.ok p hp
  exact ⟨s, n, e, hs⟩
def ItmE (Q : VK) (x : V) (H : Hp) : Prop := LiI.rItemsL x H Q
theorem w_itm {te : TE} {σ : L2.St} {H : Hp} {Q : VK} (k : te σ H fun x H1 => ItmE Q x H1) : LiI.tListItems te σ H Q := k
theorem w_itmE {H : Hp} {Q : VK} {d : Addr} {kvs : List (Key × V)} (h : H d = some (.dK kvs)) (k : ∀ (p : Addr) (ts : List Addr) (H' : Hp), H p = none → Sm H H' → H' p = some (.lst (ts.map V.ref)) → Paired (fun (t : Addr) (q : Key × V) => H' t = some (.tup [kV q.1, q.2])) ts kvs → Q (.ref p) H') : ItmE Q (.ref d) H :=
  ⟨d, kvs, rfl, h, fun H' p ts sm np _ _ g pr => k p ts H' np sm g pr⟩
local macro_rules | `(tactic| tm_at "rs") => `(tactic| first | with_reducible refine w_itm ?_ | ((with_reducible refine' w_itmE ?h (fun _ _ _ _ _ _ _ => ?k)); (case h => tm_at "rlk")) | ((with_reducible refine' w_dictD ?h (fun _ _ _ _ _ => ?k)); (case h => tm_at "rlk")) | fail "no")

/-! repr of lists and tuples, where nothing is being shown -/
def gRep1 (K : PySem.W.Frag) : List V → Hp → VK → Prop := fun xs H Q => ∃ a d, xs = [.ref a] ∧ Dp K H (.ref a) d ∧ d.showable = true ∧ d.hasDict = false ∧ d.depth ≤ 3000 ∧ d.shown.length ≤ sizeLine ∧ Q (.str d.shown) H
def gRep (K : PySem.W.Frag) : List V → Hp → VK → Prop := fun xs H Q => gRep1 K xs H Q ∨ (xs = [.non] ∧ Q (.str "None") H)
theorem call_gRep1 {X : Cx} {K : PySem.W.Frag} (hK : X.K = K) (hg : X.A.guards = some []) (hu : X.A.units + 5000 < cLine) : CallR X (.builtin "repr") (gRep1 K) := by
  subst hK
  intro pins s σ H xs us Q I rs h
  obtain ⟨a, d, rfl, hd, hs, nd, hp, hz, q⟩ := h
  obtain ⟨u, rfl, ru⟩ := vals1 rs
  obtain rfl : u = Value.ref a := ru
  obtain ⟨as, r⟩ := Dp.reads I d _ _ hd rfl
  exact repr_of_reads' r hs (PyData.noDict_hsm nd) hg (by omega) (fun _ _ e => e) (fun h' u tk hk => ⟨.str _, H, Inv.kept (t' := tk) I hk, ⟨_, rfl⟩, q⟩) hz
theorem call_gRep {X : Cx} {K : PySem.W.Frag} (hK : X.K = K) (hg : X.A.guards = some []) (hu : X.A.units + 5000 < cLine) : CallR X (.builtin "repr") (gRep K) := by
  refine cr_or (call_gRep1 hK hg hu) ?_
  intro pins s σ H xs us Q I rs h
  obtain ⟨rfl, q⟩ := h
  obtain ⟨u, rfl, ru⟩ := vals1 rs
  obtain rfl : u = Value.none := ru
  exact PySem.P.repr_of_none ⟨.str _, H, I.tok _, ⟨_, rfl⟩, q⟩
theorem w_repN {K : PySem.W.Frag} {H : Hp} {Q : VK} (k : Q (.str "None") H) : gRep K [.non] H Q := .inr ⟨rfl, k⟩
theorem rp_ints : ∀ ns : List Int, (∀ n ∈ ns, n.natAbs < 10 ^ 15) → PyData.showableAll (ns.map .int) = true ∧ PyData.hasDictAll (ns.map .int) = false ∧ PyData.leavesShortAll 16 (ns.map .int) = true ∧ PyData.bulkAll (ns.map .int) = ns.length
  | [], _ => ⟨rfl, rfl, rfl, rfl⟩
  | n :: ns, h => by
    obtain ⟨h1, h2, h3, h4⟩ := rp_ints ns (fun m hm => h m (List.mem_cons_of_mem _ hm))
    have hn := h n List.mem_cons_self
    have e := int_text_length_le10 (k := 15) (by decide) hn
    have hs : (PyData.shown (.int n)).length ≤ 16 := by
      show (Str.ofString (toString n)).length ≤ 16
      rw [PySem.ofString_length]
      exact e
    have hl : n.natAbs.log2 < 1920 := PySem.Spec.log2_small (Nat.lt_of_lt_of_le hn (Nat.le_trans (show 10 ^ 15 ≤ 2 ^ 60 by decide) (Nat.pow_le_pow_right (by decide) (by decide))))
    refine ⟨?_, ?_, ?_, ?_⟩
    · simp [PyData.showableAll, PyData.showable, h1, hl]
    · simp [PyData.hasDictAll, PyData.hasDict, h2]
    · simp [PyData.leavesShortAll, PyData.leavesShort, h3, hs]
    · simp [PyData.bulkAll, PyData.bulk, h4]
      omega
theorem w_repInts {K : PySem.W.Frag} {H : Hp} {Q : VK} {a : Addr} {ns : List Int} (h : SqL K H a (ns.map V.int)) (b : ∀ n ∈ ns, n.natAbs < 10 ^ 15) (l : ns.length ≤ 1000) (k : Q (.str (PyData.shown (.list (ns.map .int)))) H) : gRep K [.ref a] H Q := by
  obtain ⟨h1, h2, h3, h4⟩ := rp_ints ns b
  have hb := PyData.shown_le_bulk 16 (by decide) (.list (ns.map .int)) (by simp [PyData.leavesShort, h3])
  refine .inl ⟨a, .list (ns.map .int), rfl, .lst h (dp_ints ns), by simp [PyData.showable, h1], by simp [PyData.hasDict, h2], ?_, sz_of ?_, k⟩
  · simp [PyData.depth, PySem.W.ke_depthAll]
  · rw [show PyData.bulk (.list (ns.map .int)) = ns.length by simp [PyData.bulk, h4]] at hb
    omega
theorem w_isiLst {K : PySem.W.Frag} {H : Hp} {Q : VK} {a : Addr} {xs : List V} (h : H a = some (.lst xs)) (k : Q (.bl true) H) : rIsi K [.ref a, .ty "list"] H Q := ⟨_, _, _, _, _, rfl, .ty _, .base (.lst h), kit_ty (by decide +kernel), k⟩
local macro_rules | `(tactic| tm_at "rs") => `(tactic| first | ((with_reducible refine' w_isiLst ?h ?k); (case h => tm_at "rlk")) | fail "no")

/-! data that can be shown: so deep, so many -/
structure ShD (d : PyData) (D N : Nat) : Prop where
  sh : d.showable = true
  nd : d.hasDict = false
  lv : d.leavesShort 600 = true
  dp : d.depth ≤ D
  bk : d.bulk ≤ N
structure ShL (ds : List PyData) (D N : Nat) : Prop where
  sh : PyData.showableAll ds = true
  nd : PyData.hasDictAll ds = false
  lv : PyData.leavesShortAll 600 ds = true
  dp : PyData.depthAll ds ≤ D
  bk : PyData.bulkAll ds ≤ N
theorem ShD.int {n : Int} {D : Nat} (h : n.natAbs < 10 ^ 500) : ShD (.int n) D 0 := by
  have e := int_text_length_le10 (k := 500) (by decide) h
  have hs : (PyData.shown (.int n)).length ≤ 600 := by
    show (Str.ofString (toString n)).length ≤ 600
    rw [PySem.ofString_length]
    omega
  have hl : n.natAbs.log2 < 1920 := PySem.Spec.log2_small (Nat.lt_of_lt_of_le h (by decide +kernel))
  exact ⟨by simp [PyData.showable, hl], by simp [PyData.hasDict], by simp [PyData.leavesShort, hs], by simp [PyData.depth], by simp [PyData.bulk]⟩
theorem ShD.str {x : Str} {D : Nat} (h : ∀ c ∈ x.cps.toList, c < 16 ^ 8) : ShD (.str x) D x.length := by
  refine ⟨by simp [PyData.showable], by simp [PyData.hasDict], ?_, by simp [PyData.depth], by simp [PyData.bulk]; exact Nat.le_refl _⟩
  simp only [PyData.leavesShort, List.all_eq_true, decide_eq_true_eq]
  exact h
theorem ShD.none {D : Nat} : ShD .none D 0 := ⟨rfl, rfl, rfl, by simp [PyData.depth], by simp [PyData.bulk]⟩
theorem ShL.nil {D : Nat} : ShL [] D 0 := ⟨rfl, rfl, rfl, by simp [PyData.depthAll], by simp [PyData.bulkAll]⟩
theorem ShL.cons {d : PyData} {ds : List PyData} {D N M : Nat} (h : ShD d D N) (k : ShL ds D M) : ShL (d :: ds) D (N + 1 + M) :=
  ⟨by simp [PyData.showableAll, h.sh, k.sh], by simp [PyData.hasDictAll, h.nd, k.nd], by simp [PyData.leavesShortAll, h.lv, k.lv], by
    have a := h.dp
    have b := k.dp
    simp only [PyData.depthAll]
    omega, by
    have a := h.bk
    have b := k.bk
    simp only [PyData.bulkAll]
    omega⟩
theorem ShL.up {ds : List PyData} {D D' N N' : Nat} (h : ShL ds D N) (a : D ≤ D') (b : N ≤ N') : ShL ds D' N' := ⟨h.sh, h.nd, h.lv, Nat.le_trans h.dp a, Nat.le_trans h.bk b⟩
theorem ShD.up {d : PyData} {D D' N N' : Nat} (h : ShD d D N) (a : D ≤ D') (b : N ≤ N') : ShD d D' N' := ⟨h.sh, h.nd, h.lv, Nat.le_trans h.dp a, Nat.le_trans h.bk b⟩
theorem ShL.tup {ds : List PyData} {D N : Nat} (h : ShL ds D N) : ShD (.tuple ds) (D + 1) N :=
  ⟨by simp [PyData.showable, h.sh], by simp [PyData.hasDict, h.nd], by simp [PyData.leavesShort, h.lv], by
    have a := h.dp
    simp only [PyData.depth]
    omega, by
    have b := h.bk
    simp only [PyData.bulk]
    omega⟩
theorem ShL.lst {ds : List PyData} {D N : Nat} (h : ShL ds D N) : ShD (.list ds) (D + 1) N :=
  ⟨by simp [PyData.showable, h.sh], by simp [PyData.hasDict, h.nd], by simp [PyData.leavesShort, h.lv], by
    have a := h.dp
    simp only [PyData.depth]
    omega, by
    have b := h.bk
    simp only [PyData.bulk]
    omega⟩
theorem ShL.all {D N : Nat} : ∀ {ds : List PyData}, (∀ d ∈ ds, ShD d D N) → ShL ds D (ds.length * (N + 1))
  | [], _ => by
    rw [List.length_nil, Nat.zero_mul]
    exact ShL.nil
  | d :: ds, h => by
    have a := ShL.cons (h d List.mem_cons_self) (ShL.all (ds := ds) fun x hx => h x (List.mem_cons_of_mem _ hx))
    refine a.up (Nat.le_refl _) ?_
    rw [List.length_cons, Nat.succ_mul]
    omega
theorem ShD.len {d : PyData} {D N : Nat} (h : ShD d D N) (b : N ≤ 27000) : d.shown.length ≤ sizeLine := by
  have e := PyData.shown_le_bulk 600 (by decide) d h.lv
  have e2 : (600 + 2) * d.bulk ≤ 602 * 27000 := Nat.mul_le_mul_left _ (Nat.le_trans h.bk b)
  have e3 : 602 * 27000 + 600 ≤ sizeLine := by decide
  omega
theorem w_repD {K : PySem.W.Frag} {H : Hp} {Q : VK} {a : Addr} {d : PyData} {D N : Nat} (h : Dp K H (.ref a) d) (s : ShD d D N) (hD : D ≤ 3000) (hN : N ≤ 27000) (k : Q (.str d.shown) H) : gRep K [.ref a] H Q :=
  .inl ⟨a, d, rfl, h, s.sh, s.nd, Nat.le_trans s.dp hD, s.len hN, k⟩
theorem ShL.nats {D : Nat} {l : List Nat} (h : ∀ n ∈ l, n < 10 ^ 500) : ShL (nD l) D l.length := by
  have e := ShL.all (ds := nD l) (D := D) (N := 0) fun d hd => by
    obtain ⟨n, hn, rfl⟩ := List.mem_map.mp hd
    exact ShD.int (by rw [Int.natAbs_natCast]; exact h n hn)
  refine e.up (Nat.le_refl _) ?_
  unfold nD
  rw [List.length_map]
  omega

theorem TmAt.kpB {K : PySem.W.Frag} {H H' : Hp} {t : Tm} {v : V} {b : Addr} (r : TmAt K H t v) (hb : BoxAt H b) (e : Kp b H H') : TmAt K H' t v := by
  obtain ⟨x, s, hb, _⟩ := hb
  exact r.kpL hb e
theorem w_ixStrs {K : PySem.W.Frag} {H : Hp} {Q : VK} {p : Addr} {ys : List Str} {i : Int} (h : SqL K H p (ys.map V.str)) (i0 : 0 ≤ i) (i1 : i < (ys.length : Int)) (k : ∀ s ∈ ys, Q (.str s) H) : rIx K (.ref p) (.int i) H Q := by
  obtain ⟨j, rfl⟩ := Int.eq_ofNat_of_zero_le i0
  have hj : j < ys.length := by omega
  exact w_ixL h (atI_nat (j := j) (by rw [List.getElem?_map, List.getElem?_eq_getElem hj]; rfl)) (k _ (List.getElem_mem hj))
local macro_rules | `(tactic| tm_at "rtm") => `(tactic| first | with_reducible assumption | ((refine' TmAt.sm ?sa ?sb); (case sb => with_reducible assumption); (case sa => tm_at "rtm")) | ((refine' TmAt.kpB ?sa ?sc ?sb); (case sb => with_reducible assumption); (case sc => tm_at "rbx"); (case sa => tm_at "rtm")) | ((refine' TmAt.kpL ?sa ?sc ?sb); (case sb => with_reducible assumption); (case sc => tm_at "rlk"); (case sa => tm_at "rtm")) | ((refine' TmAt.kpD ?sa ?sc ?sb); (case sb => with_reducible assumption); (case sc => tm_at "rlk"); (case sa => tm_at "rtm")) | fail "no")

/-! terms as data: alike, shown -/
def tmD : Tm → PyData
  | .num n => .tuple [.str "num", .int (n : Int)]
  | .name s => .tuple [.str "name", .str s]
  | .op w a b => .tuple [.str w, tmD a, tmD b]
theorem TmAt.dpD {K : PySem.W.Frag} {H : Hp} : ∀ {t : Tm} {v : V}, TmAt K H t v → Dp K H v (tmD t)
  | .num n, _, ⟨_, rfl, q⟩ => .tup q.sq (.cons (.str _) (.cons (.int _) .nil))
  | .name s, _, ⟨_, rfl, q⟩ => .tup q.sq (.cons (.str _) (.cons (.str _) .nil))
  | .op w a b, _, ⟨_, _, _, rfl, q, r1, r2⟩ => .tup q.sq (.cons (.str _) (.cons (TmAt.dpD r1) (.cons (TmAt.dpD r2) .nil)))
/-- names and words are plain texts -/
def TmL : Tm → Prop
  | .num _ => True
  | .name s => PyData.strOk s = true
  | .op w a b => PyData.strOk w = true ∧ TmL a ∧ TmL b
theorem tmD_lay : ∀ {t : Tm}, TmL t → (tmD t).canLay0 = true
  | .num n, _ => by
    have h : PyData.strOk (Str.ofString "num") = true := by decide +kernel
    simp [tmD, PyData.canLay0, PyData.canLayAll0, h]
  | .name s, hs => by
    have h : PyData.strOk (Str.ofString "name") = true := by decide +kernel
    have hs : PyData.strOk s = true := hs
    simp [tmD, PyData.canLay0, PyData.canLayAll0, h, hs]
  | .op w a b, hs => by
    obtain ⟨h1, h2, h3⟩ := hs
    simp [tmD, PyData.canLay0, PyData.canLayAll0, tmD_lay h2, tmD_lay h3, h1]
theorem tmD_dep : ∀ t : Tm, (tmD t).depth ≤ t.dep + 1
  | .num n => by simp [tmD, PyData.depth, PyData.depthAll]
  | .name s => by simp [tmD, PyData.depth, PyData.depthAll]
  | .op w a b => by
    have h1 := tmD_dep a
    have h2 := tmD_dep b
    show (PyData.tuple [.str w, tmD a, tmD b]).depth ≤ max a.dep b.dep + 1 + 1
    simp only [PyData.depth, PyData.depthAll]
    omega
/-- a saying as a tuple -/
def syD (w : Str) (s t : Tm) : PyData := .tuple [.str w, tmD s, tmD t]
theorem syD_lay {w : Str} {s t : Tm} (h : TmL (.op w s t)) : (syD w s t).canLay0 = true := by
  obtain ⟨h1, h2, h3⟩ := h
  simp [syD, PyData.canLay0, PyData.canLayAll0, tmD_lay h2, tmD_lay h3, h1]
theorem syD_dep {w : Str} {s t : Tm} (h1 : s.dep ≤ 2900) (h2 : t.dep ≤ 2900) : (syD w s t).depth ≤ 3000 := by
  have e1 := tmD_dep s
  have e2 := tmD_dep t
  simp only [syD, PyData.depth, PyData.depthAll]
  omega
theorem w_eqSay {K : PySem.W.Frag} {H : Hp} {Q : VK} {a b : Addr} {w : Str} {l1 r1 l2 r2 : V} {s t : Tm} (h1 : H a = some (.tup [.str w, l1, r1])) (h2 : H b = some (.tup [.str w, l2, r2])) (s1 : TmAt K H s l1) (t1 : TmAt K H t r1) (s2 : TmAt K H s l2) (t2 : TmAt K H t r2) (lw : TmL (.op w s t)) (d1 : s.dep ≤ 2900) (d2 : t.dep ≤ 2900) (k : Q (.bl true) H) : rEqDD K (.ref a) (.ref b) H Q := by
  refine ⟨syD w s t, syD w s t, .tup (st_of h1) (.cons (.str _) (.cons s1.dpD (.cons t1.dpD .nil))), .tup (st_of h2) (.cons (.str _) (.cons s2.dpD (.cons t2.dpD .nil))), syD_lay lw, syD_lay lw, syD_dep d1 d2, ?_⟩
  rw [PySem.SeqAt.eqv_refl _ (syD_lay lw)]
  exact k
theorem sayc_eq {K : PySem.W.Frag} {C D : Addr} (a : SayC K C) (b : SayC K D) : C = D := ClsN.uniq a b

/-! long sums shown -/
def TmX : Tm → Prop
  | .num n => n < 10 ^ 12
  | .name s => PyData.strOk s = true ∧ s.length ≤ 20
  | .op w a b => (PyData.strOk w = true ∧ w.length ≤ 20) ∧ TmX a ∧ TmX b
theorem TmX.l : ∀ {t : Tm}, TmX t → TmL t
  | .num _, _ => trivial
  | .name _, h => h.1
  | .op _ _ _, ⟨h1, h2, h3⟩ => ⟨h1.1, h2.l, h3.l⟩
structure Shb (d : PyData) (N : Nat) : Prop where
  sh : d.showable = true
  nd : d.hasDict = false
  lv : d.leavesShort 20 = true
  bk : d.bulk ≤ N
theorem shb_str {x : Str} (h : PyData.strOk x = true) (l : x.length ≤ 20) : Shb (.str x) 20 := by
  refine ⟨by simp [PyData.showable], by simp [PyData.hasDict], ?_, by simp [PyData.bulk]; exact l⟩
  simp only [PyData.leavesShort, List.all_eq_true, decide_eq_true_eq]
  intro c hc
  unfold PyData.strOk at h
  rw [← Array.all_toList] at h
  have h1 := of_decide_eq_true (List.all_eq_true.mp h c hc)
  have : (16 : Nat) ^ 8 = 4294967296 := by decide
  omega
theorem shb_int {n : Nat} (h : n < 10 ^ 12) : Shb (.int (n : Int)) 0 := by
  have e := int_text_length_le10 (k := 12) (by decide) (show (n : Int).natAbs < 10 ^ 12 by rw [Int.natAbs_natCast]; exact h)
  have hs : (PyData.shown (.int (n : Int))).length ≤ 20 := by
    show (Str.ofString (toString (n : Int))).length ≤ 20
    rw [PySem.ofString_length]
    omega
  have hl : (n : Int).natAbs.log2 < 1920 := PySem.Spec.log2_small (by rw [Int.natAbs_natCast]; exact Nat.lt_of_lt_of_le h (by decide +kernel))
  rw [Int.natAbs_natCast] at hl
  exact ⟨by simp [PyData.showable, hl], by simp [PyData.hasDict], by simp [PyData.leavesShort, hs], by simp [PyData.bulk]⟩
theorem shb_two {a b : PyData} {n m : Nat} (ha : Shb a n) (hb : Shb b m) : Shb (.tuple [a, b]) (n + m + 2) :=
  ⟨by simp [PyData.showable, PyData.showableAll, ha.sh, hb.sh], by simp [PyData.hasDict, PyData.hasDictAll, ha.nd, hb.nd], by simp [PyData.leavesShort, PyData.leavesShortAll, ha.lv, hb.lv], by
    have := ha.bk
    have := hb.bk
    simp only [PyData.bulk, PyData.bulkAll]
    omega⟩
theorem shb_three {a b c : PyData} {n m l : Nat} (ha : Shb a n) (hb : Shb b m) (hc : Shb c l) : Shb (.tuple [a, b, c]) (n + m + l + 3) :=
  ⟨by simp [PyData.showable, PyData.showableAll, ha.sh, hb.sh, hc.sh], by simp [PyData.hasDict, PyData.hasDictAll, ha.nd, hb.nd, hc.nd], by simp [PyData.leavesShort, PyData.leavesShortAll, ha.lv, hb.lv, hc.lv], by
    have := ha.bk
    have := hb.bk
    have := hc.bk
    simp only [PyData.bulk, PyData.bulkAll]
    omega⟩
theorem Shb.up {d : PyData} {n m : Nat} (h : Shb d n) (l : n ≤ m) : Shb d m := ⟨h.sh, h.nd, h.lv, Nat.le_trans h.bk l⟩
theorem shb_tm : ∀ {t : Tm}, TmX t → Shb (tmD t) (30 * t.wt)
  | .num n, h => (shb_two (shb_str (x := "num") (by decide +kernel) (by decide)) (shb_int h)).up (by show 20 + 0 + 2 ≤ 30 * 1; decide)
  | .name s, h => (shb_two ⟨rfl, rfl, (shb_str (x := "name") (by decide +kernel) (by decide)).lv, show (4 : Nat) ≤ 4 from Nat.le_refl _⟩ (shb_str h.1 h.2)).up (by show 4 + 20 + 2 ≤ 30 * 1; decide)
  | .op w a b, ⟨h1, h2, h3⟩ => (shb_three (shb_str h1.1 h1.2) (shb_tm h2) (shb_tm h3)).up (by show 20 + 30 * a.wt + 30 * b.wt + 3 ≤ 30 * (a.wt + b.wt + 2); omega)
theorem shb_sy {w : Str} {s t : Tm} (h : TmX (.op w s t)) : Shb (syD w s t) (30 * (Tm.op w s t).wt) := shb_tm h
theorem w_repB {K : PySem.W.Frag} {H : Hp} {Q : VK} {a : Addr} {l r : V} {w : Str} {s t : Tm} (h : H a = some (.tup [.str w, l, r])) (ht : TmAt K H s l) (hr : TmAt K H t r) (hx : TmX (.op w s t)) (d1 : s.dep ≤ 2900) (d2 : t.dep ≤ 2900) (hw : (Tm.op w s t).wt ≤ 24000) (k : Q (.str (syD w s t).shown) H) : gRep K [.ref a] H Q := by
  have sb := shb_sy hx
  refine .inl ⟨a, syD w s t, rfl, .tup (st_of h) (.cons (.str _) (.cons ht.dpD (.cons hr.dpD .nil))), sb.sh, sb.nd, syD_dep d1 d2, ?_, k⟩
  have e := PyData.shown_le_bulk 20 (by decide) (syD w s t) sb.lv
  have e2 : (20 + 2) * (syD w s t).bulk ≤ 22 * (30 * 24000) := Nat.mul_le_mul_left _ (Nat.le_trans sb.bk (Nat.mul_le_mul_left _ hw))
  have e3 : 22 * (30 * 24000) + 20 ≤ sizeLine := by decide
  omega
theorem fold_X : ∀ {ts : List Tm} {a : Tm}, TmX a → (∀ t ∈ ts, TmX t) → TmX (ts.foldl (fun a b => .op "plus" a b) a)
  | [], _, h, _ => h
  | t :: ts, a, h, k => fold_X (ts := ts) (a := .op "plus" a t) ⟨⟨by decide +kernel, by decide⟩, h, k t List.mem_cons_self⟩ fun u hu => k u (List.mem_cons_of_mem _ hu)
theorem fold_wt {w : Nat} : ∀ {ts : List Tm} {a : Tm}, (∀ t ∈ ts, t.wt ≤ w) → (ts.foldl (fun a b => Tm.op "plus" a b) a).wt ≤ a.wt + ts.length * (w + 2)
  | [], a, _ => by
    show a.wt ≤ a.wt + 0 * (w + 2)
    omega
  | t :: ts, a, k => by
    have h := fold_wt (ts := ts) (a := .op "plus" a t) fun u hu => k u (List.mem_cons_of_mem _ hu)
    have h2 := k t List.mem_cons_self
    have h3 : (Tm.op (Str.ofString "plus") a t).wt = a.wt + t.wt + 2 := rfl
    show (ts.foldl (fun a b => Tm.op "plus" a b) (.op "plus" a t)).wt ≤ _
    rw [List.length_cons, Nat.succ_mul]
    omega
theorem fold_depA {d : Nat} : ∀ {ts : List Tm} {a : Tm}, (∀ t ∈ ts, t.dep ≤ d) → (ts.foldl (fun a b => Tm.op "plus" a b) a).dep ≤ max a.dep d + ts.length
  | [], a, _ => by
    show a.dep ≤ _
    omega
  | t :: ts, a, k => by
    have h := fold_depA (ts := ts) (a := .op "plus" a t) fun u hu => k u (List.mem_cons_of_mem _ hu)
    have h2 := k t List.mem_cons_self
    have h3 : (Tm.op (Str.ofString "plus") a t).dep = max a.dep t.dep + 1 := rfl
    show (ts.foldl (fun a b => Tm.op "plus" a b) (.op "plus" a t)).dep ≤ _
    rw [List.length_cons]
    omega
theorem sumT_X {ts : List Tm} (h : ∀ t ∈ ts, TmX t) : TmX (sumT ts) := by
  cases ts with
  | nil => show (0 : Nat) < 10 ^ 12; decide
  | cons t ts => exact fold_X (h t List.mem_cons_self) fun u hu => h u (List.mem_cons_of_mem _ hu)
theorem sumT_wt {w : Nat} {ts : List Tm} (h : ∀ t ∈ ts, t.wt ≤ w) : (sumT ts).wt ≤ 1 + ts.length * (w + 2) := by
  cases ts with
  | nil => show 1 ≤ _; omega
  | cons t ts =>
    have e := fold_wt (a := t) fun u hu => h u (List.mem_cons_of_mem _ hu)
    have e2 := h t List.mem_cons_self
    show (ts.foldl (fun a b => Tm.op "plus" a b) t).wt ≤ _
    rw [List.length_cons, Nat.succ_mul]
    omega
theorem sumT_dep {d : Nat} {ts : List Tm} (h : ∀ t ∈ ts, t.dep ≤ d) : (sumT ts).dep ≤ d + ts.length := by
  cases ts with
  | nil => show 0 ≤ _; omega
  | cons t ts =>
    have e := fold_depA (a := t) fun u hu => h u (List.mem_cons_of_mem _ hu)
    have e2 := h t List.mem_cons_self
    show (ts.foldl (fun a b => Tm.op "plus" a b) t).dep ≤ _
    rw [List.length_cons]
    omega
theorem isi_say {K : PySem.W.Frag} {H : Hp} {Q : VK} {v l r : V} {w : Str} {C : Addr} (h : SayAt K H v w l r) (hC : SayC K C) (o : ClsO K C) (k : Q (.bl true) H) : rIsi K [v, .ref C] H Q := by
  obtain ⟨p, D, dx, rfl, c, g⟩ := h
  obtain rfl := sayc_eq c hC
  exact w_isiOwn g c.cl o k
/-- drawn sides of a saying -/
def D69 (ab : Tm × Tm) : Prop := TmX ab.1 ∧ TmX ab.2 ∧ ab.1.dep ≤ 3 ∧ ab.2.dep ≤ 3 ∧ ab.1.wt ≤ 30 ∧ ab.2.wt ≤ 30
theorem d69_X {abs : List (Tm × Tm)} (h : ∀ ab ∈ abs, D69 ab) : TmX (.op "same" (sumT (abs.map sqT)) (sumT (abs.map prT))) := by
  refine ⟨⟨by decide +kernel, by decide⟩, sumT_X fun t ht => ?_, sumT_X fun t ht => ?_⟩
  · obtain ⟨ab, hab, rfl⟩ := List.mem_map.mp ht
    obtain ⟨h1, h2, _⟩ := h ab hab
    exact ⟨⟨by decide +kernel, by decide⟩, ⟨⟨by decide +kernel, by decide⟩, h1, h1⟩, ⟨⟨by decide +kernel, by decide⟩, h2, h2⟩⟩
  · obtain ⟨ab, hab, rfl⟩ := List.mem_map.mp ht
    obtain ⟨h1, h2, _⟩ := h ab hab
    exact ⟨⟨by decide +kernel, by decide⟩, show (2 : Nat) < 10 ^ 12 by decide, ⟨⟨by decide +kernel, by decide⟩, h1, h2⟩⟩
theorem d69_dep {abs : List (Tm × Tm)} (h : ∀ ab ∈ abs, D69 ab) (l : abs.length ≤ 100) : (sumT (abs.map sqT)).dep ≤ 2900 ∧ (sumT (abs.map prT)).dep ≤ 2900 := by
  have e1 := sumT_dep (d := 5) (ts := abs.map sqT) fun t ht => by
    obtain ⟨ab, hab, rfl⟩ := List.mem_map.mp ht
    obtain ⟨_, _, h1, h2, _⟩ := h ab hab
    show max (max ab.1.dep ab.1.dep + 1) (max ab.2.dep ab.2.dep + 1) + 1 ≤ 5
    omega
  have e2 := sumT_dep (d := 5) (ts := abs.map prT) fun t ht => by
    obtain ⟨ab, hab, rfl⟩ := List.mem_map.mp ht
    obtain ⟨_, _, h1, h2, _⟩ := h ab hab
    show max 0 (max ab.1.dep ab.2.dep + 1) + 1 ≤ 5
    omega
  rw [List.length_map] at e1 e2
  omega
theorem d69_wt {abs : List (Tm × Tm)} (h : ∀ ab ∈ abs, D69 ab) (l : abs.length ≤ 100) : (Tm.op "same" (sumT (abs.map sqT)) (sumT (abs.map prT))).wt ≤ 24000 := by
  have e1 := sumT_wt (w := 126) (ts := abs.map sqT) fun t ht => by
    obtain ⟨ab, hab, rfl⟩ := List.mem_map.mp ht
    obtain ⟨_, _, _, _, h1, h2⟩ := h ab hab
    show (ab.1.wt + ab.1.wt + 2) + (ab.2.wt + ab.2.wt + 2) + 2 ≤ 126
    omega
  have e2 := sumT_wt (w := 66) (ts := abs.map prT) fun t ht => by
    obtain ⟨ab, hab, rfl⟩ := List.mem_map.mp ht
    obtain ⟨_, _, _, _, h1, h2⟩ := h ab hab
    show 1 + (ab.1.wt + ab.2.wt + 2) + 2 ≤ 66
    omega
  rw [List.length_map] at e1 e2
  show (sumT (abs.map sqT)).wt + (sumT (abs.map prT)).wt + 2 ≤ 24000
  omega

/-! names that give way to others, as a dict of texts tells -/
def Nm (s : Str) : Prop := PyData.strOk s = true ∧ s.length ≤ 20
theorem nm_low {s : Str} (hs : Low s) (l : s.length ≤ 20) : Nm s := by
  refine ⟨?_, l⟩
  unfold PyData.strOk
  rw [← Array.all_toList, List.all_eq_true]
  intro c hc
  have := hs c hc
  exact decide_eq_true (by omega)
structure TxD (kvs : List (Key × V)) : Prop where
  nd : (kvs.map (·.1)).Nodup
  ok : ∀ p ∈ kvs, ∃ s u : Str, p = (Sum.inr s, V.str u) ∧ Nm s ∧ Nm u
theorem TxD.nil : TxD [] := ⟨List.nodup_nil, fun p h => by cases h⟩
theorem TxD.put {kvs : List (Key × V)} (h : TxD kvs) {s u : Str} (hs : Nm s) (hu : Nm u) : TxD (putK kvs (.inr s) (.str u)) := by
  refine ⟨?_, ?_⟩
  · unfold putK
    split
    · rw [List.map_map]
      refine cast ?_ h.nd
      congr 1
      refine List.map_congr_left fun x _ => ?_
      show x.1 = (if x.1 = Sum.inr s then (x.1, V.str u) else x).1
      split <;> rfl
    · rename_i hno
      rw [List.map_append]
      refine List.nodup_append.mpr ⟨h.nd, by simp, fun x hx y hy => ?_⟩
      have hy : y = Sum.inr s := List.mem_singleton.mp hy
      subst hy
      rintro rfl
      obtain ⟨p, hp, e⟩ := List.mem_map.mp hx
      exact hno (List.any_eq_true.mpr ⟨p, hp, decide_eq_true e⟩)
  · intro p hp
    unfold putK at hp
    split at hp
    · obtain ⟨r, hr, rfl⟩ := List.mem_map.mp hp
      split
      · rename_i e
        exact ⟨s, u, by rw [e], hs, hu⟩
      · exact h.ok r hr
    · rcases List.mem_append.mp hp with hp | hp
      · exact h.ok p hp
      · rw [List.mem_singleton.mp hp]
        exact ⟨s, u, rfl, hs, hu⟩
theorem TxD.merge : ∀ {more kvs : List (Key × V)}, TxD kvs → (∀ p ∈ more, ∃ s u : Str, p = (Sum.inr s, V.str u) ∧ Nm s ∧ Nm u) → TxD (mergeK kvs more)
  | [], _, h, _ => h
  | q :: r, kvs, h, hm => by
    obtain ⟨s, u, rfl, hs, hu⟩ := hm q List.mem_cons_self
    exact TxD.merge (more := r) (h.put hs hu) fun p hp => hm p (List.mem_cons_of_mem _ hp)
def sbN (kvs : List (Key × V)) (s : Str) : Str := match valV kvs (.inr s) with
  | some (.str u) => u
  | _ => s
theorem TxD.get {kvs : List (Key × V)} (h : TxD kvs) (s : Str) : (valV kvs (.inr s)).getD (.str s) = .str (sbN kvs s) := by
  unfold sbN
  cases e : valV kvs (.inr s) with
  | none => rfl
  | some v =>
    obtain ⟨s', u, e1, _⟩ := h.ok _ (valV_some e)
    cases e1
    rfl
theorem TxD.nm {kvs : List (Key × V)} (h : TxD kvs) {s : Str} (hs : Nm s) : Nm (sbN kvs s) := by
  unfold sbN
  cases e : valV kvs (.inr s) with
  | none => exact hs
  | some v =>
    obtain ⟨s', u, e1, _, hu⟩ := h.ok _ (valV_some e)
    cases e1
    exact hu
def Tm.led (kvs : List (Key × V)) : Tm → Tm
  | .num n => .num n
  | .name s => .name (sbN kvs s)
  | .op w a b => .op w (a.led kvs) (b.led kvs)
/-- terms with words of their own -/
def TmN : Tm → Prop
  | .num _ => True
  | .name _ => True
  | .op w a b => w ≠ "num" ∧ w ≠ "name" ∧ TmN a ∧ TmN b
theorem TmX.led {kvs : List (Key × V)} (d : TxD kvs) : ∀ {t : Tm}, TmX t → TmX (t.led kvs)
  | .num _, h => h
  | .name _, h => d.nm h
  | .op _ _ _, ⟨h, a, b⟩ => ⟨h, TmX.led d a, TmX.led d b⟩
theorem led_dep (kvs : List (Key × V)) : ∀ t : Tm, (t.led kvs).dep = t.dep
  | .num _ => rfl
  | .name _ => rfl
  | .op _ a b => by
    show max (a.led kvs).dep (b.led kvs).dep + 1 = max a.dep b.dep + 1
    rw [led_dep kvs a, led_dep kvs b]
theorem led_wt (kvs : List (Key × V)) : ∀ t : Tm, (t.led kvs).wt = t.wt
  | .num _ => rfl
  | .name _ => rfl
  | .op _ a b => by
    show (a.led kvs).wt + (b.led kvs).wt + 2 = a.wt + b.wt + 2
    rw [led_wt kvs a, led_wt kvs b]
theorem led_nil : ∀ t : Tm, t.led [] = t
  | .num _ => rfl
  | .name _ => rfl
  | .op _ a b => by
    show Tm.op _ (a.led []) (b.led []) = _
    rw [led_nil a, led_nil b]
/-- d.get(k, x) -/
def Dg2E (tx : TE) (σ : L2.St) (Q : VK) (a : Addr) (y : V) (H2 : Hp) : Prop := tx σ H2 fun z H3 => ∃ o, DGet H3 a y o ∧ Q (o.getD z) H3
def Dg1E (ty tx : TE) (σ : L2.St) (Q : VK) (x : V) (H1 : Hp) : Prop := ∃ a, x = .ref a ∧ IsD H1 a ∧ ty σ H1 fun y H2 => Dg2E tx σ Q a y H2
theorem w_dget2 {td ty tx : TE} {σ : L2.St} {H : Hp} {Q : VK} (k : td σ H fun x H1 => Dg1E ty tx σ Q x H1) : tDGet2 td ty tx σ H Q := k
theorem w_dget2a {ty tx : TE} {σ : L2.St} {H : Hp} {Q : VK} {a : Addr} {kvs : List (Key × V)} (h : H a = some (.dK kvs)) (k : ty σ H fun y H2 => Dg2E tx σ Q a y H2) : Dg1E ty tx σ Q (.ref a) H := ⟨a, rfl, .inl ⟨kvs, .inl h⟩, k⟩
def DgdE (Q : VK) (a : Addr) (y z : V) (H3 : Hp) : Prop := ∃ o, DGet H3 a y o ∧ Q (o.getD z) H3
theorem w_dget2b {tx : TE} {σ : L2.St} {H : Hp} {Q : VK} {a : Addr} {y : V} (k : tx σ H fun z H3 => DgdE Q a y z H3) : Dg2E tx σ Q a y H := k
theorem w_dget2c {H : Hp} {Q : VK} {a : Addr} {s : Str} {z : V} {kvs : List (Key × V)} (h : H a = some (.dK kvs)) (k : Q ((valV kvs (.inr s)).getD z) H) : DgdE Q a (.str s) z H :=
  ⟨_, .inl ⟨kvs, .inr s, .inl h, rfl, rfl⟩, k⟩
theorem w_dget2s {H : Hp} {Q : VK} {a : Addr} {s : Str} {kvs : List (Key × V)} (h : H a = some (.dK kvs)) (d : TxD kvs) (k : Q (.str (sbN kvs s)) H) : DgdE Q a (.str s) (.str s) H :=
  w_dget2c h (by rw [d.get]; exact k)
/-- two dicts of texts alike -/
theorem w_neT {H : Hp} {Q : VK} {a b : Addr} {kvs : List (Key × V)} (ha : H a = some (.dK kvs)) (hb : H b = some (.dK kvs)) (d : TxD kvs) (k : Q (.bl false) H) : rNeDA (.ref a) (.ref b) H Q :=
  ⟨a, b, kvs, kvs, rfl, rfl, ha, hb, rfl, fun p hp => by
    obtain ⟨s, u, rfl, _, _⟩ := d.ok p hp
    exact ⟨valV_nd d.nd hp, rfl⟩, k⟩
/-! a comprehension over a dict's items, the dict locked -/
theorem w_lockE {t : TE} {σ : L2.St} {H : Hp} {Q : VK} {d : Addr} {u : HO} (h : H d = some u) (m : Mut (some u)) (k : ∀ od, t σ (upd H d (.frz od u)) fun v H' => H' d = some (.frz od u) ∧ Q v (upd H' d u)) : tLockE t σ H Q := ⟨d, u, h, m, k⟩
def dictPE (K : PySem.W.Frag) (xs : List V) (H : Hp) (Q : VK) : Prop := ∃ (a : Addr) (ps : List Addr) (kvs : List (Key × V)), xs = [.ref a] ∧ SqL K H a (ps.map V.ref) ∧ Paired (fun p kv => SqT K H p [kV kv.1, kv.2]) ps kvs ∧ ∀ p, H p = none → Q (.ref p) (upd H p (.dK (mergeK [] kvs)))
theorem call_gDictP {X : Cx} {K : PySem.W.Frag} (hK : K = X.K) (hc : X.calm = true) : CallR X (.type "dict") (dictPE K) := by
  subst hK
  exact call_dictP hc
theorem w_dictP {K : PySem.W.Frag} {H : Hp} {Q : VK} {a : Addr} {ps : List Addr} {kvs : List (Key × V)} (h : SqL K H a (ps.map V.ref)) (hp : Paired (fun p kv => SqT K H p [kV kv.1, kv.2]) ps kvs) (k : ∀ p H', H p = none → Sm H H' → H' p = some (.dK (mergeK [] kvs)) → Q (.ref p) H') : dictPE K [.ref a] H Q :=
  ⟨a, ps, kvs, rfl, h, hp, fun p hn => k p _ hn (sm_new hn) upd_same⟩
def ItiE (R : It → Hp → Prop) (x : V) (H1 : Hp) : Prop := ∃ d o kvs, x = .ref d ∧ H1 d = some (.frz o (.dK kvs)) ∧ R (Iti d o kvs) H1
theorem w_iItems {σ : L2.St} {H : Hp} {td : TE} {R : It → Hp → Prop} (k : td σ H fun x H1 => ItiE R x H1) : iItems td σ H R := k
theorem w_iItE {H : Hp} {R : It → Hp → Prop} {d : Addr} {o : Obj} {kvs : List (Key × V)} (h : H d = some (.frz o (.dK kvs))) (k : R (Iti d o kvs) H) : ItiE R (.ref d) H := ⟨d, o, kvs, rfl, h, k⟩
theorem lcIt {σ : L2.St} {H : Hp} {Q : VK} {g : TG} {tt : TT} {te : TE} {vs : List Nat} {d : Addr} {od : Obj} {kvs : List (Key × V)} (Pv : Addr → Nat → Hp → Prop) (h0 : ∀ D H', H D = none → Sm H H' → H' D = some (.lst []) → Pv D 0 H')
    (hl : ∀ D i H', H D = none → i ≤ kvs.length → Pv D i H' → H' d = some (.frz od (.dK kvs)))
    (hs : ∀ D i k v T H1 H', H D = none → i < kvs.length → kvs[i]? = some (k, v) → Pv D i H1 → H1 T = none → Sm H1 H' → H' T = some (.tup [kV k, v]) → g (.ref T) (wipe σ vs) H' fun σ2 H2 => LcGo vs σ σ2 (tt σ2 H2 fun b H3 => if b = true then te σ2 H3 fun y H4 => LcEnd D y (Pv D (i + 1)) H4 else Pv D (i + 1) H3))
    (hd : ∀ D H', H D = none → Pv D kvs.length H' → Q (.ref D) H') : LcL (Iti d od kvs) g tt te vs σ H Q := fun D hD =>
  lc_it walk_items (Pv D) (h0 D _ hD (sm_new hD) upd_same) (fun i H' hi p => hl D i H' hD hi p) (fun i x H1 H' hi p y => by
    obtain ⟨T, u, v, rfl, hT, rfl, h1, h2⟩ := y
    have h1 : (kvs[i]?.map fun kv => kV kv.1) = some u := h1
    have h2 : (kvs[i]?.map Prod.snd) = some v := h2
    cases e : kvs[i]? with
    | none => rw [e] at h1; cases h1
    | some kv =>
      rw [e] at h1 h2
      cases h1
      cases h2
      exact hs D i kv.1 kv.2 T H1 _ hD hi e p hT (sm_new hT) upd_same) (fun H' p => hd D H' hD p)
def swK (kv : Key × V) : Key × V := match kv with
  | (.inr s, .str u) => (.inr u, .str s)
  | kv => kv
theorem TxD.sw {kvs : List (Key × V)} (h : TxD kvs) : ∀ p ∈ kvs.map swK, ∃ s u : Str, p = (Sum.inr s, V.str u) ∧ Nm s ∧ Nm u := fun p hp => by
  obtain ⟨q, hq, rfl⟩ := List.mem_map.mp hp
  obtain ⟨s, u, rfl, hs, hu⟩ := h.ok q hq
  exact ⟨u, s, rfl, hu, hs⟩
local macro_rules | `(tactic| tm_at "rs") => `(tactic| first | with_reducible refine w_dget2 ?_ | ((with_reducible refine' w_dget2a ?h ?k); (case h => tm_at "rlk")) | with_reducible refine w_dget2b ?_ | ((with_reducible refine' w_dget2s ?h ?d ?k); (case h => tm_at "rlk"); (case d => assumption)) | with_reducible refine w_iItems ?_ | ((with_reducible refine' w_iItE ?h ?k); (case h => assumption)) | fail "no")

theorem pw_odd {F B N : Nat} (h : N % 2 = 1) : F * B * (B * B) ^ (N / 2) = F * B ^ N := by
  have e : (N / 2 + N / 2).succ = N := by omega
  rw [Nat.mul_pow, ← Nat.pow_add, Nat.mul_assoc, Nat.mul_comm B, ← Nat.pow_succ, e]
theorem pw_even {F B N : Nat} (h : N % 2 = 0) : F * (B * B) ^ (N / 2) = F * B ^ N := by
  have e : N / 2 + N / 2 = N := by omega
  rw [Nat.mul_pow, ← Nat.pow_add, e]
/-! how far off -/
def stn (x y : Nat) : Nat := x - (x &&& y)
def offI (w : Str) (x y : Nat) : Int := (if w = "under" then ((stn x y : Nat) : Int) else (x : Int) - y) * (if w = "under" then ((stn x y : Nat) : Int) else (x : Int) - y)
theorem tm_bd {kvs : List (Key × V)} {g : Str → Nat} : ∀ {t : Tm}, TmOk kvs g t → ∃ r : Nat, ev g t < 2 ^ r ∧ r ≤ 1000000
  | .num _, h => h
  | .name _, h => h.2
  | .op w a b, ⟨_, _, _, _, n, n1, hx, hc⟩ => by
    show ∃ r, cm w (ev g a) (ev g b) < 2 ^ r ∧ r ≤ 1000000
    rcases hc with ⟨rfl, hy, h⟩ | ⟨rfl, m, hy, h⟩ | ⟨h1, h2, _, r, hr1, hr2⟩
    · refine ⟨n + 1, ?_, h⟩
      show ev g a + ev g b < _
      rw [Nat.pow_succ]
      omega
    · refine ⟨n + m, ?_, h⟩
      show ev g a * ev g b < _
      rw [Nat.pow_add]
      exact Nat.mul_lt_mul'' hx hy
    · refine ⟨r, ?_, hr2⟩
      unfold cm
      rw [if_neg h1, if_neg h2]
      exact hr1
theorem stn_le (x y : Nat) : stn x y ≤ x := Nat.sub_le _ _
theorem stn_zero (y : Nat) : stn 0 y = 0 := Nat.zero_sub _
theorem stn_step (x y : Nat) : stn x y = 2 * stn (x / 2) (y / 2) + (if x % 2 = 1 ∧ y % 2 = 0 then 1 else 0) := by
  unfold stn
  have h1 : (x &&& y) / 2 = x / 2 &&& y / 2 := Nat.and_div_two
  have h2 : x &&& y ≤ x := Nat.and_le_left
  have h3 : x / 2 &&& y / 2 ≤ x / 2 := Nat.and_le_left
  have h4 := @Nat.and_mod_two_eq_one x y
  split
  · rename_i h
    have : (x &&& y) % 2 = 0 := by
      have := Nat.mod_two_eq_zero_or_one (x &&& y)
      omega
    omega
  · rename_i h
    have : (x &&& y) % 2 = x % 2 := by
      have := Nat.mod_two_eq_zero_or_one (x &&& y)
      have := Nat.mod_two_eq_zero_or_one x
      have := Nat.mod_two_eq_zero_or_one y
      omega
    omega
theorem off_zero {w : Str} {x y : Nat} : (if w = "under" then decide (x &&& y = x) else decide (x = y)) = decide (offI w x y = 0) := by
  unfold offI
  by_cases h : w = "under"
  · rw [if_pos h, if_pos h]
    refine decide_eq_decide.mpr ?_
    rw [Int.mul_eq_zero, or_self_iff]
    have := @Nat.and_le_left x y
    unfold stn
    omega
  · rw [if_neg h, if_neg h]
    refine decide_eq_decide.mpr ?_
    rw [Int.mul_eq_zero, or_self_iff]
    omega
theorem gap_ok {x y : Nat} {r s : Nat} (hx : x < 2 ^ r) (hr : r ≤ 1000000) (hy : y < 2 ^ s) (hs : s ≤ 1000000) : CM ((x : Int) - y) ((x : Int) - y) ∧ CM ((stn x y : Nat) : Int) ((stn x y : Nat) : Int) := by
  have h1 := stn_le x y
  refine ⟨.inr (mulx_ok (a := max r s) (b := max r s) ?_ ?_ (by omega)), .inr (mulx_ok (a := r) (b := r) ?_ ?_ (by omega))⟩
  · have e1 : 2 ^ r ≤ 2 ^ max r s := Nat.pow_le_pow_right (by decide) (by omega)
    have e2 : 2 ^ s ≤ 2 ^ max r s := Nat.pow_le_pow_right (by decide) (by omega)
    generalize 2 ^ max r s = A at *
    omega
  · have e1 : 2 ^ r ≤ 2 ^ max r s := Nat.pow_le_pow_right (by decide) (by omega)
    have e2 : 2 ^ s ≤ 2 ^ max r s := Nat.pow_le_pow_right (by decide) (by omega)
    generalize 2 ^ max r s = A at *
    omega
  · rw [Int.natAbs_natCast]; omega
  · rw [Int.natAbs_natCast]; omega
theorem stn_lt {x y n : Nat} (h : x < 2 ^ n) : stn x y < 2 ^ n := Nat.lt_of_le_of_lt (stn_le x y) h
theorem stn_more {s a b t T : Nat} (h : a + b * 2 ^ t = T) (e : b = 2 * s + 1) : a + 2 ^ t + s * 2 ^ (t + 1) = T := by
  rw [← h, e, Nat.pow_succ, Nat.add_mul, Nat.one_mul, Nat.mul_comm 2 s, Nat.mul_assoc s 2, Nat.mul_comm 2]
  omega
theorem stn_less {s a b t T : Nat} (h : a + b * 2 ^ t = T) (e : b = 2 * s + 0) : a + s * 2 ^ (t + 1) = T := by
  rw [← h, show b = s * 2 by omega, Nat.pow_succ, Nat.mul_assoc s 2, Nat.mul_comm 2]
theorem stn_cast {a t : Nat} : (a : Int) + 2 ^ (t : Int).toNat = ((a + 2 ^ t : Nat) : Int) := by
  rw [Int.toNat_natCast, Int.natCast_add, Int.natCast_pow]
  rfl

/-- a saying that can be looked at -/
def HoldsOk (K : PySem.W.Frag) (H : Hp) (kvs : List (Key × V)) (g : Str → Nat) (v : V) (o : Bool) : Prop := ∃ w l r a b, SayAt K H v w l r ∧ TmAt K H a l ∧ TmAt K H b r ∧ TmOk kvs g a ∧ TmOk kvs g b ∧ a.wt ≤ 10000 ∧ b.wt ≤ 10000 ∧ o = (if w = "under" then decide (ev g a &&& ev g b = ev g a) else decide (ev g a = ev g b))
theorem HoldsOk.sm {K : PySem.W.Frag} {H H' : Hp} {kvs : List (Key × V)} {g : Str → Nat} {v : V} {o : Bool} (h : HoldsOk K H kvs g v o) (e : Sm H H') : HoldsOk K H' kvs g v o := by
  obtain ⟨w, l, r, a, b, h1, h2, h3, h4⟩ := h
  exact ⟨w, l, r, a, b, h1.sm e, h2.sm e, h3.sm e, h4⟩
/-- the first that is false -/
def firstF : List Bool → Option Nat
  | [] => none
  | b :: bs => if b = true then (firstF bs).map (· + 1) else some 0
theorem firstF_take : ∀ {bs : List Bool} {i : Nat} {b : Bool}, bs[i]? = some b → (∀ c ∈ bs.take i, c = true) → b = false → firstF bs = some i
  | [], _, _, h, _, _ => by cases h
  | v :: bs, 0, b, h, _, n => by
    have h : v = b := Option.some.inj h
    unfold firstF
    rw [h, n]
    rfl
  | v :: bs, i + 1, b, h, k, n => by
    have h : bs[i]? = some b := h
    have hv : v = true := k v List.mem_cons_self
    unfold firstF
    rw [if_pos hv, firstF_take h (fun c hc => k c (List.mem_cons_of_mem _ hc)) n]
    rfl
theorem firstF_none : ∀ {bs : List Bool}, (∀ c ∈ bs, c = true) → firstF bs = none
  | [], _ => rfl
  | v :: bs, k => by
    unfold firstF
    rw [if_pos (k v List.mem_cons_self), firstF_none fun c hc => k c (List.mem_cons_of_mem _ hc)]
    rfl
def natV : Option Nat → V
  | none => .non
  | some i => .int (i : Nat)
/-! sum(list, start=0); lists of the same objects compared -/
theorem argsSumK (a z : Value) : argsOk "sum" ⟨[a], [(Str.ofString "start", z)]⟩ := by unfold argsOk; kernel_rfl
section
variable {prog : Program} {w : World} {A : Around} {E : Value → Shared → Prop} {s : Shared}
theorem callTreeK {id : String} {b : Builtin} {args : List Value} {kw : List (Str × Value)} {Q : Value → Shared → Prop} (hk : builtinKind id = none) (hp : plainId id = true) (hb : entryFor table id = some b) (ha : argsOk id ⟨args, kw⟩)
    (hc : wpAny (model prog w) A.in1 (b ⟨args, kw⟩) (fun fin s' => match fin with | .done f => (match (Except.ok f : Result) with | .ok (.ret v) => Q v s' | .ok _ => False | .error e => E e s') | .again c' => c'.quiet = true ∧ codeAny (model prog w) A c' (fun r s' => match r with | .ok (.ret v) => Q v s' | .ok _ => False | .error e => E e s') s') E s) :
    wpAny (model prog w) A (call (.builtin id) args kw) Q E s := by
  refine wpAny_call (codeAny_call_builtin hp hb ?_)
  simp only [hk, checkBuiltinCall]
  cases hsig : Manifest.signature? id with
  | none => exact wpAny_pure hc
  | some sig =>
    have h2 : Bind.checkArgs id sig ⟨args, kw⟩ = pure () := by simpa only [hsig, argsOk] using ha
    simp only [h2]
    exact wpAny_pure hc
theorem sumK_raw {l : Addr} {xs : Array (Int × Tok)} {t0 : Tok} {Q : Value → Shared → Prop} (hh : A.handled = none) (hl : s.heap.IsList l (intItems xs))
    (h : ∀ h' tk t', (∀ b o, s.heap.get? b = some o → h'.get? b = some o) → Q (.int (preSum (numAt xs) xs.size) t') { s with heap := h', toks := tk }) :
    wpAny (model prog w) A (call (.builtin "sum") [.ref l] [(Str.ofString "start", .int 0 t0)]) Q E s := by
  refine callTreeK F.kind_sum F.plain_sum F.entry_sum (argsSumK _ _) ?_
  unfold Builtin.«sum»
  simp only [List.length_cons, List.length_nil]
  rw [if_neg (by decide)]
  refine PySem.wpAny_bind (PySem.wpAny_of_eq (show Builtin.Builtins.bindParams "sum" ["start"] 0 ⟨[], [(Str.ofString "start", Value.int 0 t0)]⟩ = pure [some (Value.int 0 t0)] from rfl) ?_)
  refine PySem.wpAny_bind (iter_intList hl fun s2 e st hfp hlI => ?_)
  subst e
  have W := Walks.list (prog := prog) (w := w) (A := A.in1) hh _ l hlI (intItems xs)
  dsimp only
  rw [if_pos (by decide)]
  refine PySem.wpAny_bind (wpAny_rule ?_)
  refine PySem.wpAny_bind (wpAny_mkInt ?_)
  refine PySem.wpAny_bind (wpAny_pure ?_)
  simp only [List.forIn_nil, List.forIn_cons]
  refine PySem.wpAny_bind (wpAny_bind (wpAny_bind (wpAny_isInstance (T := "int") (b := false) (typeIs_int _ _ _) PySem.sub_int_str ?_)))
  simp only [if_false, Bool.false_eq_true]
  refine wpAny_pure (PySem.wpAny_bind (wpAny_bind (wpAny_isInstance (T := "int") (b := false) (typeIs_int _ _ _) PySem.sub_int_bytes ?_)))
  simp only [if_false, Bool.false_eq_true]
  refine wpAny_pure (PySem.wpAny_bind (wpAny_bind (wpAny_isInstance (T := "int") (b := false) (typeIs_int _ _ _) PySem.sub_int_bytearray ?_)))
  simp only [if_false, Bool.false_eq_true]
  refine PySem.wpAny_pure (wpAny_pure ?_)
  refine PySem.wpAny_bind (wpAny_newObj_type ?_)
  refine wpAny_pure ⟨plainId_quiet F.plain_sum_loop _, codeAny_sum_loopG W (numAt xs) (fun _ _ => intItems_at) _ (fun hm => Nat.lt_irrefl _ (hfp _ hm)) _ 0 _ _ 0 0 (Or.inl rfl) rfl (Nat.zero_le _) (W.frame _ _ _ st fun b _ o e => Heap.get?_push_of_some _ e) (Heap.get?_push_size _ rfl) fun h' tk t' hk => ?_⟩
  have hz : (intItems xs).size = xs.size := by simp [intItems]
  rw [hz]
  refine h h' tk t' fun b o e => ?_
  have hlt : b < s.heap.objs.size := Heap.lt_size e
  refine hk b o (fun q => ?_) ?_ (Heap.get?_push_of_some _ (Heap.get?_push_of_some _ e))
  · exact absurd (List.mem_singleton.mp q) (Nat.ne_of_lt hlt)
  · exact Nat.ne_of_lt (Heap.lt_size (Heap.get?_push_of_some _ e))
end
/-- sum(xs, start=0) -/
def rSumK (K : PySem.W.Frag) : List V → List V → Hp → VK → Prop := fun vs zs H Q => zs = [.int 0] ∧ rSum K vs H Q
theorem cr_sumK {X : Cx} (hc : X.calm = true) : CallRK X (.builtin "sum") ["start"] (rSumK X.K) := by
  intro pins s σ H xs zs us ws Q I r r2 h
  obtain ⟨rfl, a, ns, rfl, hs, q⟩ := h
  obtain ⟨its, rv, hl, _⟩ := I.list hs
  rw [Vals.ref1 r]
  cases r2 with
  | cons r0 t0 =>
    cases t0
    obtain ⟨t, rfl⟩ := r0
    obtain ⟨ps, e⟩ := rv.ints.allInts.items
    have hn : numsOf (intItems ps).toList = ns := by
      rw [← e]
      exact rv.ints.numsOf
    rw [nums_intItems] at hn
    have hl' := hl.isList
    rw [e] at hl'
    refine sumK_raw (I.ok.hd hc) hl' fun h' tk t' hk => ⟨.int _, H, I.kept hk, ⟨_, rfl⟩, ?_⟩
    rw [preSum_eq, List.take_of_length_le (by simp), hn]
    exact q
theorem w_sumK {K : PySem.W.Frag} {H : Hp} {Q : VK} {p : Addr} {ns : List Int} (h : SqL K H p (ns.map V.int)) (k : Q (.int ns.sum) H) : rSumK K [.ref p] [.int 0] H Q := ⟨rfl, p, ns, rfl, h, k⟩
/-! two lists of the same objects -/
def rNeSameL : R2 := fun x y H Q => ∃ a b xs, x = .ref a ∧ y = .ref b ∧ H a = some (.lst xs) ∧ H b = some (.lst xs) ∧ (∀ v ∈ xs, ∃ p, v = V.ref p) ∧ Q (.bl false) H
theorem vals_refs : ∀ {xs : List V} {us vs : List Value}, (∀ v ∈ xs, ∃ p, v = V.ref p) → Vals xs us → Vals xs vs → us = vs
  | [], _, _, _, .nil, .nil => rfl
  | x :: xs, _, _, h, .cons r1 t1, .cons r2 t2 => by
    obtain ⟨p, rfl⟩ := h x List.mem_cons_self
    cases r1
    cases r2
    rw [vals_refs (fun v hv => h v (List.mem_cons_of_mem _ hv)) t1 t2]
theorem op_neSameL {X : Cx} (hu : X.A.units + 64 < cLine) : OpR X (compareOp .NotEq) rNeSameL := by
  intro pins s σ H x y v u Q I rx ry h
  obtain ⟨a, b, xs, rfl, rfl, ea, eb, hx, q⟩ := h
  cases rx
  cases ry
  obtain ⟨its, rv, hl, _⟩ := I.list (.inl (.inl ea))
  obtain ⟨its2, rv2, hl2, _⟩ := I.list (.inl (.inl eb))
  have e := vals_refs hx rv rv2
  subst e
  refine SeqAt.RcNeAt.lists (e := fun _ => true) hl.isList hl2.isList rfl (by omega) (fun j h1 h2 => SeqAt.EqAt.same _) X.prog X.w X.xe _ ?_
  rw [show (!(List.range its.toArray.size).all fun _ => true) = false by simp]
  exact ⟨.bl false, H, I, rfl, q⟩
theorem w_neSameL {H : Hp} {Q : VK} {a b : Addr} {xs : List V} (ha : H a = some (.lst xs)) (hb : H b = some (.lst xs)) (h : ∀ v ∈ xs, ∃ p, v = V.ref p) (k : Q (.bl false) H) : rNeSameL (.ref a) (.ref b) H Q := ⟨a, b, xs, rfl, rfl, ha, hb, h, k⟩
theorem w_cKw {r : List V → List V → Hp → VK → Prop} {t tk : TA} {σ : L2.St} {H : Hp} {Q : VK} (k : t σ H fun vs H1 => tk σ H1 fun zs H2 => r vs zs H2 Q) : tCKw r t tk σ H Q := k
local macro_rules | `(tactic| tm_at "rs") => `(tactic| with_reducible refine w_cKw ?_)

def F45 (K : PySem.W.Frag) (H : Hp) (kvs : List (Key × V)) (g : Str → Nat) (x : V) (n : Int) : Prop := ∃ w l r a b, SayAt K H x w l r ∧ TmAt K H a l ∧ TmAt K H b r ∧ TmOk kvs g a ∧ TmOk kvs g b ∧ a.wt ≤ 10000 ∧ b.wt ≤ 10000 ∧ n = offI w (ev g a) (ev g b)
theorem F45.sm {K : PySem.W.Frag} {H H' : Hp} {kvs : List (Key × V)} {g : Str → Nat} {x : V} {n : Int} (h : F45 K H kvs g x n) (e : Sm H H') : F45 K H' kvs g x n := by
  obtain ⟨w, l, r, a, b, h1, h2, h3, h4⟩ := h
  exact ⟨w, l, r, a, b, h1.sm e, h2.sm e, h3.sm e, h4⟩
theorem F45.kpL {K : PySem.W.Frag} {H H' : Hp} {kvs : List (Key × V)} {g : Str → Nat} {x : V} {n : Int} {q : Addr} {zs : List V} (h : F45 K H kvs g x n) (hq : H q = some (.lst zs)) (e : Kp q H H') : F45 K H' kvs g x n := by
  obtain ⟨w, l, r, a, b, h1, h2, h3, h4⟩ := h
  exact ⟨w, l, r, a, b, h1.kpL hq e, h2.kpL hq e, h3.kpL hq e, h4⟩
theorem pr_at {α β : Type} {F : α → β → Prop} : ∀ {xs : List α} {ys : List β} {i : Nat} {x : α}, Paired F xs ys → xs[i]? = some x → ∃ y, ys[i]? = some y ∧ F x y
  | _, _, 0, _, .cons a _, rfl => ⟨_, rfl, a⟩
  | _, _, i + 1, _, .cons _ b, e => pr_at (i := i) b e
/-! bounds of what terms come to -/
def Bd (kvs : List (Key × V)) (g : Str → Nat) (n : Nat) (t : Tm) : Prop := TmOk kvs g t ∧ ev g t < 2 ^ n
theorem Bd.times {kvs : List (Key × V)} {g : Str → Nat} {n m : Nat} {a b : Tm} (ha : Bd kvs g n a) (hb : Bd kvs g m b) (n1 : 1 ≤ n) (h : n + m ≤ 1000000) : Bd kvs g (n + m) (.op "times" a b) :=
  ⟨⟨by decide, by decide, ha.1, hb.1, n, n1, ha.2, .inr (.inl ⟨rfl, m, hb.2, h⟩)⟩, by
    show ev g a * ev g b < _
    rw [Nat.pow_add]
    exact Nat.mul_lt_mul'' ha.2 hb.2⟩
theorem Bd.plus {kvs : List (Key × V)} {g : Str → Nat} {n : Nat} {a b : Tm} (ha : Bd kvs g n a) (hb : Bd kvs g n b) (n1 : 1 ≤ n) (h : n + 1 ≤ 1000000) : Bd kvs g (n + 1) (.op "plus" a b) :=
  ⟨⟨by decide, by decide, ha.1, hb.1, n, n1, ha.2, .inl ⟨rfl, hb.2, h⟩⟩, by
    show ev g a + ev g b < _
    have h1 := ha.2
    have h2 := hb.2
    rw [Nat.pow_succ]
    omega⟩
theorem Bd.up {kvs : List (Key × V)} {g : Str → Nat} {n m : Nat} {a : Tm} (ha : Bd kvs g n a) (h : n ≤ m) : Bd kvs g m a := ⟨ha.1, Nat.lt_of_lt_of_le ha.2 (Nat.pow_le_pow_right (by decide) h)⟩
theorem Bd.two {kvs : List (Key × V)} {g : Str → Nat} : Bd kvs g 2 (.num 2) := ⟨⟨2, by decide, by decide⟩, by show 2 < 2 ^ 2; decide⟩
/-- both sides of a saying -/
structure Pb (kvs : List (Key × V)) (g : Str → Nat) (n w : Nat) (ab : Tm × Tm) : Prop where
  b1 : Bd kvs g n ab.1
  b2 : Bd kvs g n ab.2
  w1 : ab.1.wt ≤ w
  w2 : ab.2.wt ≤ w
def eiT (a b : Tm × Tm) : Tm × Tm := (.op "plus" (.op "times" a.1 b.1) (.op "times" a.2 b.2), .op "plus" (.op "times" a.1 b.2) (.op "times" a.2 b.1))
theorem Pb.ei {kvs : List (Key × V)} {g : Str → Nat} {n w : Nat} {a b : Tm × Tm} (ha : Pb kvs g n w a) (hb : Pb kvs g n w b) (n1 : 1 ≤ n) (h : n + n + 1 ≤ 1000000) : Pb kvs g (n + n + 1) (4 * w + 6) (eiT a b) where
  b1 := (ha.b1.times hb.b1 n1 (by omega)).plus (ha.b2.times hb.b2 n1 (by omega)) (by omega) h
  b2 := (ha.b1.times hb.b2 n1 (by omega)).plus (ha.b2.times hb.b1 n1 (by omega)) (by omega) h
  w1 := by
    have h1 := ha.w1; have h2 := ha.w2; have h3 := hb.w1; have h4 := hb.w2
    show (a.1.wt + b.1.wt + 2) + (a.2.wt + b.2.wt + 2) + 2 ≤ _
    omega
  w2 := by
    have h1 := ha.w1; have h2 := ha.w2; have h3 := hb.w1; have h4 := hb.w2
    show (a.1.wt + b.2.wt + 2) + (a.2.wt + b.1.wt + 2) + 2 ≤ _
    omega
theorem Pb.one {kvs : List (Key × V)} {g : Str → Nat} {n w : Nat} {a b : Tm × Tm} (ha : Pb kvs g n w a) (hb : Pb kvs g n w b) (n1 : 1 ≤ n) (h : n + n + 4 ≤ 1000000) : Pb kvs g (n + n + 4) (8 * w + 20) (sumT [sqT a, sqT b], sumT [prT a, prT b]) where
  b1 := ((((ha.b1.times ha.b1 n1 (by omega)).plus (ha.b2.times ha.b2 n1 (by omega)) (by omega) (by omega)).plus ((hb.b1.times hb.b1 n1 (by omega)).plus (hb.b2.times hb.b2 n1 (by omega)) (by omega) (by omega)) (by omega) (by omega))).up (by omega)
  b2 := ((Bd.two.times (ha.b1.times ha.b2 n1 (by omega)) (by decide) (by omega)).plus (Bd.two.times (hb.b1.times hb.b2 n1 (by omega)) (by decide) (by omega)) (by omega) (by omega)).up (by omega)
  w1 := by
    have h1 := ha.w1; have h2 := ha.w2; have h3 := hb.w1; have h4 := hb.w2
    show ((a.1.wt + a.1.wt + 2) + (a.2.wt + a.2.wt + 2) + 2) + ((b.1.wt + b.1.wt + 2) + (b.2.wt + b.2.wt + 2) + 2) + 2 ≤ _
    omega
  w2 := by
    have h1 := ha.w1; have h2 := ha.w2; have h3 := hb.w1; have h4 := hb.w2
    show (1 + (a.1.wt + a.2.wt + 2) + 2) + (1 + (b.1.wt + b.2.wt + 2) + 2) + 2 ≤ _
    omega
def gapT (g : Str → Nat) (ab : Tm × Tm) : Int := ((ev g ab.1 : Nat) : Int) - ((ev g ab.2 : Nat) : Int)
theorem gap_ei {g : Str → Nat} (a b : Tm × Tm) : gapT g (eiT a b) = gapT g a * gapT g b := by
  show (((ev g a.1 * ev g b.1 + ev g a.2 * ev g b.2 : Nat) : Int) - ((ev g a.1 * ev g b.2 + ev g a.2 * ev g b.1 : Nat) : Int)) = (((ev g a.1 : Nat) : Int) - ((ev g a.2 : Nat) : Int)) * (((ev g b.1 : Nat) : Int) - ((ev g b.2 : Nat) : Int))
  rw [Int.natCast_add, Int.natCast_add, Int.natCast_mul, Int.natCast_mul, Int.natCast_mul, Int.natCast_mul, Int.sub_mul, Int.mul_sub, Int.mul_sub]
  omega
theorem gap_one {g : Str → Nat} (a b : Tm × Tm) : gapT g (sumT [sqT a, sqT b], sumT [prT a, prT b]) = gapT g a * gapT g a + gapT g b * gapT g b := by
  show ((((ev g a.1 * ev g a.1 + ev g a.2 * ev g a.2) + (ev g b.1 * ev g b.1 + ev g b.2 * ev g b.2) : Nat) : Int) - ((2 * (ev g a.1 * ev g a.2) + 2 * (ev g b.1 * ev g b.2) : Nat) : Int)) = (((ev g a.1 : Nat) : Int) - ((ev g a.2 : Nat) : Int)) * (((ev g a.1 : Nat) : Int) - ((ev g a.2 : Nat) : Int)) + (((ev g b.1 : Nat) : Int) - ((ev g b.2 : Nat) : Int)) * (((ev g b.1 : Nat) : Int) - ((ev g b.2 : Nat) : Int))
  generalize ev g a.1 = x
  generalize ev g a.2 = y
  generalize ev g b.1 = z
  generalize ev g b.2 = u
  have e1 : ((x : Int) - y) * ((x : Int) - y) = ((x * x : Nat) : Int) - 2 * ((x * y : Nat) : Int) + ((y * y : Nat) : Int) := by
    rw [Int.sub_mul, Int.mul_sub, Int.mul_sub, Int.natCast_mul, Int.natCast_mul, Int.natCast_mul, Int.mul_comm (y : Int) (x : Int)]
    omega
  have e2 : ((z : Int) - u) * ((z : Int) - u) = ((z * z : Nat) : Int) - 2 * ((z * u : Nat) : Int) + ((u * u : Nat) : Int) := by
    rw [Int.sub_mul, Int.mul_sub, Int.mul_sub, Int.natCast_mul, Int.natCast_mul, Int.natCast_mul, Int.mul_comm (u : Int) (z : Int)]
    omega
  rw [e1, e2]
  omega
theorem gap_bd {kvs : List (Key × V)} {g : Str → Nat} {n w : Nat} {a : Tm × Tm} (h : Pb kvs g n w a) : (gapT g a).natAbs < 2 ^ n := by
  have h1 := h.b1.2
  have h2 := h.b2.2
  unfold gapT
  omega
theorem abs_mul {a b : Int} {n m : Nat} (ha : a.natAbs < 2 ^ n) (hb : b.natAbs < 2 ^ m) : (a * b).natAbs < 2 ^ (n + m) := by
  rw [Int.natAbs_mul, Nat.pow_add]
  exact Nat.mul_lt_mul'' ha hb
theorem holds_same {g : Str → Nat} (a : Tm × Tm) : (if (Str.ofString "same") = "under" then decide (ev g a.1 &&& ev g a.2 = ev g a.1) else decide (ev g a.1 = ev g a.2)) = decide (gapT g a = 0) := by
  rw [if_neg (by decide +kernel)]
  refine decide_eq_decide.mpr ?_
  unfold gapT
  omega
theorem off_same {g : Str → Nat} (a : Tm × Tm) : offI "same" (ev g a.1) (ev g a.2) = gapT g a * gapT g a := by
  unfold offI
  rw [if_neg (by decide +kernel)]
  rfl
theorem sq_zero {x : Int} : x * x = 0 ↔ x = 0 := by
  rw [Int.mul_eq_zero]
  exact ⟨fun h => h.elim id id, fun h => .inl h⟩
theorem inV_ints {z : Int} : ∀ l : List Int, inV (.int z) (l.map V.int) = decide (z ∈ l)
  | [] => rfl
  | y :: l => by
    have h := inV_ints (z := z) l
    show ((y == z) || inV (.int z) (l.map V.int)) = _
    rw [h]
    by_cases e : y = z
    · subst e
      simp
    · have e1 : (y == z) = false := by simpa using e
      rw [e1, Bool.false_or]
      refine decide_eq_decide.mpr ?_
      rw [List.mem_cons]
      exact ⟨.inr, fun h => h.elim (fun q => absurd q.symm e) id⟩
theorem w_inI {K : PySem.W.Frag} {H : Hp} {Q : VK} {p : Addr} {z : Int} (l : List Int) (h : SqL K H p (l.map V.int)) (k : Q (.bl (decide (z ∈ l))) H) : rIn K false (.int z) (.ref p) H Q := ⟨p, _, rfl, .inl h, rfl, by
  rw [List.all_map]
  exact List.all_eq_true.mpr fun _ _ => rfl, by
  show Q (.bl (inV (.int z) (l.map V.int))) H
  rw [inV_ints]
  exact k⟩
/-- a saying as a tuple -/
def TrAt (K : PySem.W.Frag) (H : Hp) (v : V) (ab : Tm × Tm) : Prop := ∃ t l r, v = .ref t ∧ H t = some (.tup [.str "same", l, r]) ∧ TmAt K H ab.1 l ∧ TmAt K H ab.2 r
theorem TrAt.tk {K : PySem.W.Frag} {H H' : Hp} {v : V} {ab : Tm × Tm} (h : TrAt K H v ab) (e : Tk H H') : TrAt K H' v ab := by
  obtain ⟨t, l, r, rfl, a, b, c⟩ := h
  exact ⟨t, l, r, rfl, e _ _ a, b.tk e, c.tk e⟩
def TrsAt (K : PySem.W.Frag) (H : Hp) (vs : List V) (abs : List (Tm × Tm)) : Prop := Paired (TrAt K H) vs abs
theorem TrsAt.tk {K : PySem.W.Frag} {H H' : Hp} {vs : List V} {abs : List (Tm × Tm)} (h : TrsAt K H vs abs) (e : Tk H H') : TrsAt K H' vs abs := paired_mono (fun _ _ q => q.tk e) h
theorem SayT.kpL {K : PySem.W.Frag} {H H' : Hp} {v : V} {ab : Tm × Tm} {b : Addr} {ys : List V} (h : SayT K H v ab) (hb : H b = some (.lst ys)) (e : Kp b H H') : SayT K H' v ab := by
  obtain ⟨l, r, p, q, s⟩ := h
  exact ⟨l, r, p.kpL hb e, q.kpL hb e, s.kpL hb e⟩
def Pr73 (kvs : List (Key × V)) (g : Str → Nat) (ab : Tm × Tm) : Prop := Pb kvs g 6000 30 ab ∧ ab.1.dep ≤ 5 ∧ ab.2.dep ≤ 5
theorem Pb.up {kvs : List (Key × V)} {g : Str → Nat} {n m w u : Nat} {a : Tm × Tm} (h : Pb kvs g n w a) (hn : n ≤ m) (hw : w ≤ u) : Pb kvs g m u a := ⟨h.b1.up hn, h.b2.up hn, Nat.le_trans h.w1 hw, Nat.le_trans h.w2 hw⟩
theorem mem_sq2 (x y : Int) : (0 : Int) ∈ [x * x, y * y] ↔ x * y = 0 := by
  rw [List.mem_cons, List.mem_singleton, Int.mul_eq_zero, ← sq_zero (x := x), ← sq_zero (x := y)]
  exact ⟨fun h => h.imp Eq.symm Eq.symm, fun h => h.imp Eq.symm Eq.symm⟩
theorem mem_sq4 (x y z u : Int) : (0 : Int) ∈ [x * x, y * y, z * z, u * u] ↔ (x * y) * (z * u) = 0 := by
  rw [Int.mul_eq_zero, ← mem_sq2, ← mem_sq2]
  simp only [List.mem_cons, List.not_mem_nil, or_false, or_assoc]
theorem sq_sum {x y : Int} : x * x + y * y = 0 ↔ x = 0 ∧ y = 0 := by
  rw [← Int.natAbs_mul_self (a := x), ← Int.natAbs_mul_self (a := y)]
  constructor
  · intro h
    have h1 : x.natAbs * x.natAbs = 0 := by omega
    have h2 : y.natAbs * y.natAbs = 0 := by omega
    rcases Nat.mul_eq_zero.mp h1 with a | a <;> rcases Nat.mul_eq_zero.mp h2 with b | b <;> omega
  · rintro ⟨rfl, rfl⟩
    rfl
theorem cm_sq {kvs : List (Key × V)} {g : Str → Nat} {n w : Nat} {a b : Tm × Tm} (ha : Pb kvs g n w a) (hb : Pb kvs g n w b) (h : n + n + (n + n) ≤ 1000000) : CM (gapT g a * gapT g a) (gapT g b * gapT g b) :=
  .inr (mulx_ok (a := n + n) (b := n + n) (abs_mul (gap_bd ha) (gap_bd ha)) (abs_mul (gap_bd hb) (gap_bd hb)) (by omega))

/-! a dict written out -/
def DispE (p : Addr) (Q : VK) (ps : List (V × V)) (H2 : Hp) : Prop := H2 p = some (.dK []) ∧ ∃ kvs : List (Key × V), ps = kvs.map (fun kv => (kV kv.1, kv.2)) ∧ kvs.length ≤ 15 ∧ Q (.ref p) (upd H2 p (.dK (mergeK [] kvs)))
theorem w_disp {trs : List (TE × TE)} {σ : L2.St} {H : Hp} {Q : VK} (k : ∀ p H0, H p = none → Sm H H0 → H0 p = some (.dK []) → tPairs trs σ H0 fun ps H2 => DispE p Q ps H2) : tDisp trs σ H Q := fun p hp => k p _ hp (sm_new hp) upd_same
theorem w_pnil {σ : L2.St} {H : Hp} {R : List (V × V) → Hp → Prop} (k : R [] H) : tPairs [] σ H R := k
theorem w_pcons {tk tv : TE} {r : List (TE × TE)} {σ : L2.St} {H : Hp} {R : List (V × V) → Hp → Prop} (k : tk σ H fun x H1 => tv σ H1 fun y H2 => tPairs r σ H2 fun ps H3 => R ((x, y) :: ps) H3) : tPairs ((tk, tv) :: r) σ H R := k
theorem w_dispE1 {p : Addr} {Q : VK} {H2 : Hp} {s : Str} {v : V} (h : H2 p = some (.dK [])) (k : ∀ H', Kp p H2 H' → H' p = some (.dK [(.inr s, v)]) → Q (.ref p) H') : DispE p Q [(.str s, v)] H2 :=
  ⟨h, [(.inr s, v)], rfl, (by show 1 ≤ 15; omega), k _ kp_upd upd_same⟩
theorem w_dispE2 {p : Addr} {Q : VK} {H2 : Hp} {s u : Str} {v w : V} (h : H2 p = some (.dK [])) (ne : ¬ s = u) (k : ∀ H', Kp p H2 H' → H' p = some (.dK [(.inr s, v), (.inr u, w)]) → Q (.ref p) H') : DispE p Q [(.str s, v), (.str u, w)] H2 := by
  refine ⟨h, [(.inr s, v), (.inr u, w)], rfl, (by show 2 ≤ 15; omega), k _ kp_upd ?_⟩
  rw [upd_same]
  show some (HO.dK (putK (putK [] (Sum.inr s) v) (Sum.inr u) w)) = _
  have e : putK [] (Sum.inr s : Key) v = [(Sum.inr s, v)] := rfl
  rw [e]
  unfold putK
  rw [if_neg (by simp only [List.any_cons, List.any_nil, Bool.or_false, decide_eq_true_eq]; exact fun q => ne (Sum.inr.inj q))]
  rfl
local macro_rules | `(tactic| tm_at "rs") => `(tactic| first | with_reducible refine w_disp (fun _ _ _ _ _ => ?_) | with_reducible refine w_pnil ?_ | with_reducible refine w_pcons ?_ | ((with_reducible refine' w_dispE1 ?h (fun _ _ _ => ?k)); (case h => tm_at "rlk")) | ((with_reducible refine' w_dispE2 ?h ?n (fun _ _ _ => ?k)); (case h => tm_at "rlk"); (case n => decide)) | fail "no")

/-! own classes: len, repr, str, truth, != of lists of them -/
/-- what is wished of an own method that stands behind a built-in -/
def rUnO (C : Addr) (sp : Sp) (E : XK) (g : V → Prop) : List V → Hp → VK → Prop := fun xs H Q => ∃ a dx fs, xs = [.ref a] ∧ H a = some (.ins C dx fs) ∧ sp [.ref a] H (fun v H' => g v ∧ Q v H') E
def IsLen (v : V) : Prop := ∃ i : Int, v = .int i ∧ 0 ≤ i ∧ i < 2 ^ 63
def IsStr (v : V) : Prop := ∃ z : Str, v = .str z
theorem own_at {X : Cx} {pins : List (Addr × Obj)} {σ : L2.St} {H : Hp} {s : Shared} {a C dx : Addr} {fs : List (Str × V)} (I : Inv X pins σ H s) (ha : H a = some (.ins C dx fs)) : ∃ ox od, PySem.W.InstAt s.heap a ox C od := by
  obtain ⟨mA, J, _⟩ := ins_get I.hok ha
  obtain ⟨od, J, _⟩ := J.look
  exact ⟨_, _, J⟩
section
variable {X : Cx} {CX : CXT} {C : Addr} {n : Nat} {ps : List Str} {sp : Sp} {E : XK}
theorem cr_lenO (G : DefO X.prog X.w X.K X.mg X.base CX C "__len__" n ps sp) (hr : RoomG (n + 1) X.A) (hx : Passes CX X E) : CallR X (.builtin "len") (rUnO C sp E IsLen) := by
  obtain ⟨f, fd, hs, hf, F, hb⟩ := G.ex
  intro pins s σ H xs us Q I rx h
  obtain ⟨a, dx, fs, rfl, ha, h⟩ := h
  obtain ⟨u, rfl, ru⟩ := vals1 rx
  cases ru
  obtain ⟨ox, od, J⟩ := own_at I ha
  obtain ⟨m, hF⟩ := I.fr
  refine PySem.W.len_K hF I.ok.mod.kin J hs hf ?_
  refine wpAny_mono (run_gA F hr.in1 rfl hb hx I (show Vals [V.ref a] [Value.ref a] from .cons rfl .nil) h) (fun r z q => ?_) fun _ _ e => e
  obtain ⟨v, H', I', rv, ⟨i, rfl, h0, h1⟩, q⟩ := q
  obtain ⟨t, rfl⟩ := rv
  exact ⟨⟨h0, h1⟩, .int i, H', I'.tok _, ⟨_, rfl⟩, q⟩
theorem cr_repO (G : DefO X.prog X.w X.K X.mg X.base CX C "__repr__" n ps sp) (hr : RoomG (n + 1) X.A) (hx : Passes CX X E) : CallR X (.builtin "repr") (rUnO C sp E IsStr) := by
  obtain ⟨f, fd, hs, hf, F, hb⟩ := G.ex
  intro pins s σ H xs us Q I rx h
  obtain ⟨a, dx, fs, rfl, ha, h⟩ := h
  obtain ⟨u, rfl, ru⟩ := vals1 rx
  cases ru
  obtain ⟨ox, od, J⟩ := own_at I ha
  obtain ⟨m, hF⟩ := I.fr
  refine PySem.W.repr_K (by have := hr.in1.units; omega) hF I.ok.mod.kin J hs hf ?_
  refine wpAny_mono (run_gA F hr.in1 rfl hb hx I (show Vals [V.ref a] [Value.ref a] from .cons rfl .nil) h) (fun r z q => ?_) fun _ _ e => e
  obtain ⟨v, H', I', rv, ⟨y, rfl⟩, q⟩ := q
  obtain ⟨t, rfl⟩ := rv
  exact ⟨.str y, H', I', ⟨_, rfl⟩, q⟩
theorem str_by {prog : Program} {w : World} {A : Around} {R E : Value → Shared → Prop} {s : Shared} {v : Value} (h : wpAny (model prog w) A.in1.in1 (Builtin.Str.strOf v) (fun r z => z.TypeIs r "str" ∧ R r z) E s) : wpAny (model prog w) A (call (.type "str") [v]) R E s := by
  refine PySem.callType_newIn F.called_str (by decide) (F.typeCall_str_1 _) (F.newCall_str_1 _) (fun obj => F.args_object_init_2 obj _) F.entry_str_new
    (S := fun B T z => wpAny (model prog w) B.in1 (Builtin.Str.strOf v) (fun r z' => T (.ok (.ret r)) z') (fun e z' => T (.error e) z') z) ?_ h
  intro B T z q
  rw [str_new_tree v]
  refine wpAny_bind (wpAny_pure (wpAny_bind (wpAny_of_eq isSubtype_str_str ?_)))
  exact wpAny_bind (wpAny_mono q (fun r z' q' => wpAny_pure q') fun _ _ e => e)
theorem cr_strO (G : DefO X.prog X.w X.K X.mg X.base CX C "__str__" n ps sp) (hr : RoomG (n + 2) X.A) (hx : Passes CX X E) : CallR X (.type "str") (rUnO C sp E IsStr) := by
  obtain ⟨f, fd, hs, hf, F, hb⟩ := G.ex
  intro pins s σ H xs us Q I rx h
  obtain ⟨a, dx, fs, rfl, ha, h⟩ := h
  obtain ⟨u, rfl, ru⟩ := vals1 rx
  cases ru
  obtain ⟨ox, od, J⟩ := own_at I ha
  refine str_by ?_
  unfold Builtin.Str.strOf
  refine wpAny_ite_split (fun q => absurd (show false = true from q) Bool.false_ne_true) (fun _ => ?_)
  refine wpAny_bind (wpAny_cRoomFor (by have := hr.in1.in1.units; omega) ?_)
  refine wpAny_bind (m := callSpecial? (.ref a) (Str.ofString "__str__")) (PySem.W.special_fn I.kIn J hs (beq_iff_eq.mp hf) ?_)
  refine wpAny_mono (run_gA F hr.in1.in1 rfl hb hx I (show Vals [V.ref a] [Value.ref a] from .cons rfl .nil) h) (fun r z q => ?_) fun _ _ e => e
  obtain ⟨v, H', I', rv, ⟨y, rfl⟩, q⟩ := q
  obtain ⟨t, rfl⟩ := rv
  refine wpAny_bind (wpAny_pure ?_)
  exact wpAny_pure ⟨typeIs_str _ _ _, .str y, H', I', ⟨_, rfl⟩, q⟩
end
theorem w_unO {C a dx : Addr} {fs : List (Str × V)} {sp : Sp} {E : XK} {g : V → Prop} {H : Hp} {Q : VK} (ha : H a = some (.ins C dx fs)) (k : sp [.ref a] H (fun v H' => g v ∧ Q v H') E) : rUnO C sp E g [.ref a] H Q := ⟨a, dx, fs, rfl, ha, k⟩
/-! lists of own things, != that finds all alike -/
theorem ne_loopL {prog : Program} {w : World} {A : Around} {R : Result → Shared → Prop} (l b : Addr) (N : Nat) (J : Nat → Shared → Prop) (hl : GQ.ListI prog w A (fun e z => R (.error e) z) l b N J) (fin : ∀ z, J N z → R (.ok (.ret (.bool false))) z) : ∀ (k i : Nat), N - i = k → i ≤ N → ∀ z, J i z →
    wpAny (model prog w) A.in1 (Builtin.«list.__eq__.loop» ⟨[.ref l, .ref b, rawInt i, rawInt 3], []⟩) (GQ.FinOf prog w A R) (fun e z' => R (.error e) z') z := by
  intro k
  induction k with
  | zero =>
    intro i hk hi z h
    obtain ⟨u1, u2, n1, n2, g1, g2, e1, e2, _⟩ := hl _ _ h
    have hR : R (.ok (.ret (.bool false))) z := fin z ((show i = N by omega) ▸ h)
    obtain ⟨hp, g, d, tk, os⟩ := z
    wp_walk using AutoSeq1.wpAny_loadPart' g1, AutoSeq1.wpAny_loadPart' g2
    have o1 : u1[((i : Nat) : Int).toNat]? = none := by simp; omega
    have o2 : u2[((i : Nat) : Int).toNat]? = none := by simp; omega
    rw [o1, o2]
    wp_walk using AutoSeq1.wpAny_loadPart' g1, AutoSeq1.wpAny_loadPart' g2
    show R (.ok (.ret (.bool (u1.size != u2.size)))) _
    rw [e1, e2, bne_self_eq_false]
    exact hR
  | succ k ih =>
    intro i hk hi z h
    obtain ⟨u1, u2, n1, n2, g1, g2, e1, e2, turn⟩ := hl _ _ h
    have l1 : i < u1.size := by omega
    have l2 : i < u2.size := by omega
    have ht := turn l1 l2
    obtain ⟨hp, g, d, tk, os⟩ := z
    wp_walk using AutoSeq1.wpAny_loadPart' g1, AutoSeq1.wpAny_loadPart' g2
    have o1 : u1[((i : Nat) : Int).toNat]? = some u1[i] := by simp [l1]
    have o2 : u2[((i : Nat) : Int).toNat]? = some u2[i] := by simp [l2]
    rw [o1, o2]
    refine wpAny_bind (wpAny_mono ht (fun r z2 q => ?_) fun _ _ x => x)
    obtain ⟨rfl, q⟩ := q
    have again := ih (i + 1) (by omega) (by omega) z2 q
    obtain ⟨hp2, g2', d2, tk2, os2⟩ := z2
    wp_walk
    rw [show ((i : Int) + 1) = ((i + 1 : Nat) : Int) by omega]
    exact ⟨PySem.plainId_quiet MeetsSeq3.plain_eq_loop _, codeAny_builtin MeetsSeq3.entry_eq_loop (by rw [Around.under_plainId MeetsSeq3.plain_eq_loop _]; exact again)⟩
theorem ne_listL {prog : Program} {w : World} {A : Around} {R : Result → Shared → Prop} (l b : Addr) (N : Nat) (J : Nat → Shared → Prop) (hl : GQ.ListI prog w A (fun e z => R (.error e) z) l b N J) (fin : ∀ z, J N z → R (.ok (.ret (.bool false))) z) {z : Shared} (h : J 0 z) :
    wpAny (model prog w) A.in1 (Builtin.«list.__ne__» ⟨[.ref l, .ref b], []⟩) (GQ.FinOf prog w A R) (fun e z' => R (.error e) z') z := by
  obtain ⟨u1, u2, n1, n2, g1, g2, e1, e2, _⟩ := hl _ _ h
  have again := ne_loopL (A := A) (R := R) l b N J hl fin _ 0 rfl (Nat.zero_le _) z h
  obtain ⟨hp, g, d, tk, os⟩ := z
  have f3 := AutoSeq1.sub_list_list
  have hne : ¬ (u1.size != u2.size) = true := by simp [e1, e2]
  wp_walk using AutoSeq1.wpAny_loadPart' g1, AutoSeq1.wpAny_loadPart' g2
  exact ⟨PySem.plainId_quiet MeetsSeq3.plain_eq_loop _, codeAny_builtin MeetsSeq3.entry_eq_loop (by rw [Around.under_plainId MeetsSeq3.plain_eq_loop _]; exact again)⟩
/-- xs != ys, two lists of things of a class with its own ==, which finds each pair alike -/
def rNeLO (C : Addr) (sp : Sp) (E : XK) : R2 := fun x y H Q => ∃ a b xs ys, x = .ref a ∧ y = .ref b ∧ H a = some (.lst xs) ∧ H b = some (.lst ys) ∧ Paired (fun x y => ∃ p q dx dy fs gs, x = .ref p ∧ y = .ref q ∧ H p = some (.ins C dx fs) ∧ H q = some (.ins C dy gs) ∧ ∀ H1, Sm H H1 → sp [.ref p, .ref q] H1 (fun v H2 => v = .bl true ∧ Sm H1 H2) E) xs ys ∧ ∀ H', Sm H H' → Q (.bl false) H'
theorem op_neLO {X : Cx} {CX : CXT} {C : Addr} {n : Nat} {ps : List Str} {sp : Sp} {E : XK} (G : DefO X.prog X.w X.K X.mg X.base CX C "__eq__" n ps sp) (hr : RoomG (n + 1) X.A) (hx : Passes CX X E) : OpR X (compareOp .NotEq) (rNeLO C sp E) := by
  obtain ⟨f, fd, hs, hf, F, hb⟩ := G.ex
  intro pins s σ H x y v u Q I rx ry h
  obtain ⟨a, b, xs, ys, rfl, rfl, ha, hb', hp, q⟩ := h
  cases rx
  cases ry
  show wpAny (model X.prog X.w) X.A (richCompare .NotEq (.ref a) (.ref b)) (EP X pins σ Q) X.xe s
  have hl : GQ.ListI X.prog X.w X.A X.xe a b xs.length (fun _ z => ∃ H1, Inv X pins σ H1 z ∧ Sm H H1) := by
    rintro i z ⟨H1, I1, s1⟩
    obtain ⟨z1, its, k1, r1, e1⟩ := I1.hok a _ (s1 _ _ ha)
    obtain ⟨z2, jts, k2, r2, e2⟩ := I1.hok b _ (s1 _ _ hb')
    have hpl : xs.length = ys.length := hp.length
    refine ⟨its.toArray, jts.toArray, k1, k2, e1, e2, by rw [List.size_toArray, ← r1.length], by rw [List.size_toArray, ← r2.length, hpl], fun h1 h2 => ?_⟩
    rw [List.size_toArray] at h1 h2
    have i1 : i < xs.length := by rw [r1.length]; exact h1
    have i2 : i < ys.length := by rw [r2.length]; exact h2
    obtain ⟨y, hy, p, q, dx, dy, fs, gs, e3, e4, gp, gq, hq⟩ := paired_get hp (List.getElem?_eq_getElem i1)
    obtain ⟨u, hu, ru⟩ := r1.get (List.getElem?_eq_getElem i1)
    obtain ⟨v, hv, rv⟩ := r2.get hy
    rw [List.getElem?_eq_getElem h1] at hu
    rw [List.getElem?_eq_getElem h2] at hv
    have eu : its.toArray[i] = u := by simpa using Option.some.inj hu
    have ev : jts.toArray[i] = v := by simpa using Option.some.inj hv
    rw [eu, ev]
    rw [e3] at ru
    rw [e4] at rv
    cases ru
    cases rv
    by_cases hpq : p = q
    · subst hpq
      exact SeqAt.EqAt.same (A := X.A.in1) (s := z) (.ref p) X.prog X.w X.xe _ ⟨rfl, H1, I1, s1⟩
    · refine GQ.eqBool_refG hpq ?_
      obtain ⟨ox, od, J1⟩ := own_at I1 (s1 _ _ gp)
      obtain ⟨oy, oe, J2⟩ := own_at I1 (s1 _ _ gq)
      obtain ⟨m, hF⟩ := I1.fr
      refine PySem.W.cmp_K (op := .Eq) (tb := .ref C) (by have := hr.in1.units; omega) hF I1.ok.mod.kin J1 J2.type (by simp [PySem.W.notFirst]) hs hf ?_
      refine wpAny_mono (run_gA F hr.in1 rfl hb hx I1 (show Vals [V.ref p, V.ref q] [Value.ref p, Value.ref q] from .cons rfl (.cons rfl .nil)) (hq H1 s1)) (fun r z' q' => ?_) fun _ _ e => e
      obtain ⟨v', H2, I2, rv', ⟨rfl, s2⟩, _⟩ : ∃ v' H2, Inv X pins σ H2 z' ∧ RelV v' r ∧ (v' = .bl true ∧ Sm H1 H2) ∧ True := by
        obtain ⟨v', H2, I2, rv', q2⟩ := q'
        exact ⟨v', H2, I2, rv', q2, trivial⟩
      cases rv'
      exact ⟨true, rfl, rfl, H2, I2, s1.trans s2⟩
  obtain ⟨u1, u2, n1, n2, g1, g2, _, _, _⟩ := hl 0 s ⟨H, I, Same.refl _⟩
  refine wpAny_richCompare_same_room (op := .NotEq) ⟨_, g1, rfl⟩ ⟨_, g2, rfl⟩ PySem.F.slot_list_ne (GQ.call_here PySem.F.slot_list_ne ⟨_, g1, rfl⟩ PySem.F.entry_list_ne (PySem.F.args_list_ne_2 _ _) ?_) (by have := hr.units; omega)
  exact ne_listL (R := wants (fun v s' => v ≠ .notImplemented ∧ EP X pins σ Q v s') X.xe) a b xs.length _ hl (fun z q2 => ⟨(fun x => nomatch x), by
    obtain ⟨H1, I1, s1⟩ := q2
    exact ⟨.bl false, H1, I1, rfl, q H1 s1⟩⟩) ⟨H, I, Same.refl _⟩

theorem d69_ni {n : Nat} {s : Str} (h : n ≤ 1000) (hs : PyData.strOk s = true ∧ s.length ≤ 20) : D69 (.num n, .name s) ∧ D69 (.name s, .num n) := by
  have e : (10 : Nat) ^ 12 = 1000000000000 := by decide
  have x1 : TmX (.num n) := by
    show n < 10 ^ 12
    omega
  have x2 : TmX (.name s) := hs
  exact ⟨⟨x1, x2, by show 0 ≤ 3; omega, by show 0 ≤ 3; omega, by show 1 ≤ 30; omega, by show 1 ≤ 30; omega⟩, ⟨x2, x1, by show 0 ≤ 3; omega, by show 0 ≤ 3; omega, by show 1 ≤ 30; omega, by show 1 ≤ 30; omega⟩⟩
theorem d69_eu {a b : Tm × Tm} (h1 : D69 a) (h2 : D69 b) : TmX (.op "same" (eiT a b).1 (eiT a b).2) ∧ (eiT a b).1.dep ≤ 2900 ∧ (eiT a b).2.dep ≤ 2900 := by
  obtain ⟨x1, y1, p1, q1, u1, v1⟩ := h1
  obtain ⟨x2, y2, p2, q2, u2, v2⟩ := h2
  have o1 : PyData.strOk (Str.ofString "times") = true ∧ (Str.ofString "times").length ≤ 20 := ⟨by decide +kernel, by decide⟩
  have o2 : PyData.strOk (Str.ofString "plus") = true ∧ (Str.ofString "plus").length ≤ 20 := ⟨by decide +kernel, by decide⟩
  refine ⟨⟨⟨by decide +kernel, by decide⟩, ⟨o2, ⟨o1, x1, x2⟩, ⟨o1, y1, y2⟩⟩, ⟨o2, ⟨o1, x1, y2⟩, ⟨o1, y1, x2⟩⟩⟩, ?_, ?_⟩
  · show max (max a.1.dep b.1.dep + 1) (max a.2.dep b.2.dep + 1) + 1 ≤ 2900
    omega
  · show max (max a.1.dep b.2.dep + 1) (max a.2.dep b.1.dep + 1) + 1 ≤ 2900
    omega
def sp_f_law_box (K : PySem.W.Frag) : Sp := fun vs H Q E => ∃ (a : Addr) (ns : List Int) (i : Int), vs = [.ref a, .int i] ∧ SqL K H a (ns.map V.int) ∧ 0 ≤ i ∧ i ≤ 100000 ∧ ∀ b H', H b = none → Sm H H' → BoxAt H' b → Q (.ref b) H'
theorem call_box {K : PySem.W.Frag} {H : Hp} {Q : VK} {E : XK} {a : Addr} {ns : List Int} {i : Int} (hS : SqL K H a (ns.map V.int)) (h0 : 0 ≤ i) (h1 : i ≤ 100000) (k : ∀ b H', H b = none → Sm H H' → BoxAt H' b → Q (.ref b) H') : sp_f_law_box K [.ref a, .int i] H Q E := ⟨a, ns, i, rfl, hS, h0, h1, k⟩
local macro_rules | `(tactic| tm_at "rs") => `(tactic| ((with_reducible refine' call_box ?h ?i ?j (fun _ _ _ _ _ => ?k)); (case h => tm_at "rsq"); (case i => omega); (case j => omega)))
def sp_f_law_take (K : PySem.W.Frag) : Sp := fun vs H Q E => ∃ (b : Addr) (w : Int), vs = [.ref b, .int w] ∧ BoxAt H b ∧ Wd w ∧ ∀ d H', 0 ≤ d → d < w → Kp b H H' → BoxAt H' b → Q (.int d) H'
theorem call_take {K : PySem.W.Frag} {H : Hp} {Q : VK} {E : XK} {b : Addr} {w : Int} (hb : BoxAt H b) (hw : Wd w) (k : ∀ d H', 0 ≤ d → d < w → Kp b H H' → BoxAt H' b → Q (.int d) H') : sp_f_law_take K [.ref b, .int w] H Q E := ⟨b, w, rfl, hb, hw, k⟩
local macro_rules | `(tactic| tm_at "rwd") => `(tactic| first | assumption | (apply wd_of <;> omega) | exact ⟨by decide, by decide +kernel⟩ | ((refine' wd_two ?wa ?wb); (case wa => with_reducible assumption); (case wb => omega)) | solve_by_elim | fail "no")
local macro_rules | `(tactic| tm_at "rs") => `(tactic| ((with_reducible refine call_take ?h ?w (fun _ _ _ _ _ _ => ?_)); (case h => tm_at "rbx"); (case w => tm_at "rwd")))
def sp_f_Saying__init (K : PySem.W.Frag) : Sp := fun vs H Q E => ∃ (p C dx : Addr) (w : Str) (l r : V), vs = [.ref p, .str w, l, r] ∧ H p = some (.ins C dx []) ∧ SayC K C ∧ (w = "same" ∨ w = "under") ∧ ∀ H', Kp p H H' → H' p = some (.ins C dx [("word", .str w), ("left", l), ("right", r)]) → Q .non H'
theorem mk_say {K : PySem.W.Frag} {H : Hp} {Q : VK} {E : XK} {C : Addr} {w : Str} {l r : V} (hC : SayC K C) (hw : w = "same" ∨ w = "under") (k : ∀ p H', H p = none → Sm H H' → SayAt K H' (.ref p) w l r → Q (.ref p) H') : MkE C (sp_f_Saying__init K) Q E [.str w, l, r] H := fun x dx hx hd ne => ⟨x, C, dx, w, l, r, rfl, upd_same, hC, hw, fun H' kp g => ⟨rfl, k x H' hx (fun a o h => kp a o (ne_of_none h hx) (by rw [upd_ne (ne_of_none h hx), upd_ne (ne_of_none h hd)]; exact h)) ⟨x, C, dx, rfl, hC, g⟩⟩⟩
def sp_f_need_same (K : PySem.W.Frag) : Sp := fun vs H Q E => ∃ (p : Addr) (xs : List V), vs = [.ref p] ∧ (H p = some (.lst xs) ∨ H p = some (.tup xs)) ∧ (∀ x ∈ xs, ∃ l r, SayAt K H x "same" l r) ∧ ∀ H', Sm H H' → Q .non H'
theorem call_needSame {K : PySem.W.Frag} {H : Hp} {Q : VK} {E : XK} {p : Addr} {xs : List V} (hp : H p = some (.lst xs) ∨ H p = some (.tup xs)) (hx : ∀ x ∈ xs, ∃ l r, SayAt K H x "same" l r) (k : ∀ H', Sm H H' → Q .non H') : sp_f_need_same K [.ref p] H Q E := ⟨p, xs, rfl, hp, hx, k⟩
def sp_f_either (K : PySem.W.Frag) : Sp := fun vs H Q E => ∃ (u v : V) (a b : Tm × Tm), vs = [u, v] ∧ SayT K H u a ∧ SayT K H v b ∧ ∀ q H', Sm H H' → SayT K H' q (.op "plus" (.op "times" a.1 b.1) (.op "times" a.2 b.2), .op "plus" (.op "times" a.1 b.2) (.op "times" a.2 b.1)) → Q q H'
theorem call_either {K : PySem.W.Frag} {H : Hp} {Q : VK} {E : XK} {u v : V} {a b : Tm × Tm} (hu : SayT K H u a) (hv : SayT K H v b) (k : ∀ q H', Sm H H' → SayT K H' q (.op "plus" (.op "times" a.1 b.1) (.op "times" a.2 b.2), .op "plus" (.op "times" a.1 b.2) (.op "times" a.2 b.1)) → Q q H') : sp_f_either K [u, v] H Q E := ⟨u, v, a, b, rfl, hu, hv, k⟩
def sp_f_sum_of (K : PySem.W.Frag) : Sp := fun vs H Q E => ∃ (p : Addr) (xs : List V) (ts : List Tm), vs = [.ref p] ∧ H p = some (.lst xs) ∧ TmsAt K H xs ts ∧ ∀ v H', Sm H H' → TmAt K H' (sumT ts) v → Q v H'
theorem call_sumOf {K : PySem.W.Frag} {H : Hp} {Q : VK} {E : XK} {p : Addr} {xs : List V} {ts : List Tm} (hp : H p = some (.lst xs)) (hx : TmsAt K H xs ts) (k : ∀ v H', Sm H H' → TmAt K H' (sumT ts) v → Q v H') : sp_f_sum_of K [.ref p] H Q E := ⟨p, xs, ts, rfl, hp, hx, k⟩
def sp_f_made_one (K : PySem.W.Frag) : Sp := fun vs H Q E => ∃ (p : Addr) (xs : List V) (abs : List (Tm × Tm)), vs = [.ref p] ∧ (H p = some (.lst xs) ∨ H p = some (.tup xs)) ∧ Paired (SayT K H) xs abs ∧ xs.length ≤ 200 ∧ ∀ q H', Sm H H' → SayT K H' q (sumT (abs.map sqT), sumT (abs.map prT)) → Q q H'
theorem call_madeOne {K : PySem.W.Frag} {H : Hp} {Q : VK} {E : XK} {p : Addr} {xs : List V} {abs : List (Tm × Tm)} (hp : H p = some (.lst xs) ∨ H p = some (.tup xs)) (hx : Paired (SayT K H) xs abs) (hl : xs.length ≤ 200) (k : ∀ q H', Sm H H' → SayT K H' q (sumT (abs.map sqT), sumT (abs.map prT)) → Q q H') : sp_f_made_one K [.ref p] H Q E := ⟨p, xs, abs, rfl, hp, hx, hl, k⟩
def sp_f_figure (K : PySem.W.Frag) : Sp := fun vs H Q E => ∃ (n b i : Int), vs = [.int n, .int b, .int i] ∧ Wd b ∧ 0 ≤ i ∧ i ≤ 1000000 ∧ Q (.int (dvs n b i.toNat % b)) H
theorem call_figure {K : PySem.W.Frag} {H : Hp} {Q : VK} {E : XK} {n b i : Int} (hb : Wd b) (h0 : 0 ≤ i) (h1 : i ≤ 1000000) (k : Q (.int (dvs n b i.toNat % b)) H) : sp_f_figure K [.int n, .int b, .int i] H Q E := ⟨n, b, i, rfl, hb, h0, h1, k⟩
local macro_rules | `(tactic| tm_at "rs") => `(tactic| ((with_reducible refine call_figure ?h ?i ?j ?_); (case h => tm_at "rwd"); (case i => omega); (case j => omega)))
def sp_f_of_figures (K : PySem.W.Frag) : Sp := fun vs H Q E => ∃ (a : Addr) (ns : List Int) (b : Int), vs = [.ref a, .int b] ∧ (SqL K H a (ns.map V.int) ∨ SqT K H a (ns.map V.int)) ∧ ns.length ≤ 400 ∧ (∀ n ∈ ns, n.natAbs < 2 ^ 2000) ∧ 2 ≤ b ∧ b ≤ 2 ^ 40 ∧ Q (.int (hrn b ns)) H
theorem call_ofFigL {K : PySem.W.Frag} {H : Hp} {Q : VK} {E : XK} {a : Addr} {ns : List Int} {b : Int} (hS : SqL K H a (ns.map V.int)) (hl : ns.length ≤ 400) (hn : ∀ n ∈ ns, n.natAbs < 2 ^ 2000) (b0 : 2 ≤ b) (b1 : b ≤ 2 ^ 40) (k : Q (.int (hrn b ns)) H) : sp_f_of_figures K [.ref a, .int b] H Q E := ⟨a, ns, b, rfl, .inl hS, hl, hn, b0, b1, k⟩
theorem call_ofFigT {K : PySem.W.Frag} {H : Hp} {Q : VK} {E : XK} {a : Addr} {ns : List Int} {b : Int} (hS : SqT K H a (ns.map V.int)) (hl : ns.length ≤ 400) (hn : ∀ n ∈ ns, n.natAbs < 2 ^ 2000) (b0 : 2 ≤ b) (b1 : b ≤ 2 ^ 40) (k : Q (.int (hrn b ns)) H) : sp_f_of_figures K [.ref a, .int b] H Q E := ⟨a, ns, b, rfl, .inr hS, hl, hn, b0, b1, k⟩
local macro_rules | `(tactic| tm_at "rs") => `(tactic| first | ((with_reducible refine' call_ofFigL ?h ?i ?j ?l ?m ?k); (case h => tm_at "rsq"); (case i => assumption); (case j => assumption); (case l => assumption); (case m => assumption)) | ((with_reducible refine' call_ofFigT ?h ?i ?j ?l ?m ?k); (case h => tm_at "rst"); (case i => assumption); (case j => assumption); (case l => assumption); (case m => assumption)))
def sp_f_ones (K : PySem.W.Frag) : Sp := fun vs H Q E => ∃ (b j : Int), vs = [.int b, .int j] ∧ 2 ≤ b ∧ b ≤ 2 ^ 40 ∧ 0 ≤ j ∧ j ≤ 300 ∧ ∀ H', Sm H H' → Q (.int (hrn b (List.replicate j.toNat 1))) H'
theorem call_ones {K : PySem.W.Frag} {H : Hp} {Q : VK} {E : XK} {b j : Int} (b0 : 2 ≤ b) (b1 : b ≤ 2 ^ 40) (j0 : 0 ≤ j) (j1 : j ≤ 300) (k : ∀ H', Sm H H' → Q (.int (hrn b (List.replicate j.toNat 1))) H') : sp_f_ones K [.int b, .int j] H Q E := ⟨b, j, rfl, b0, b1, j0, j1, k⟩
local macro_rules | `(tactic| tm_at "rs") => `(tactic| ((with_reducible refine call_ones ?h ?i ?j ?l (fun _ _ => ?_)); (case h => assumption); (case i => assumption); (case j => assumption); (case l => assumption)))
def sp_f_figures (K : PySem.W.Frag) : Sp := fun vs H Q E => ∃ (x w j : Int), vs = [.int x, .int w, .int j] ∧ Wd w ∧ 0 ≤ j ∧ j ≤ 1000 ∧ ∀ (p : Addr) (H' : Hp), H p = none → Sm H H' → H' p = some (.lst ((fgs w x j.toNat).map V.int)) → Q (.ref p) H'
theorem call_figures {K : PySem.W.Frag} {H : Hp} {Q : VK} {E : XK} {x w j : Int} (hw : Wd w) (j0 : 0 ≤ j) (j1 : j ≤ 1000) (k : ∀ (p : Addr) (H' : Hp), H p = none → Sm H H' → H' p = some (.lst ((fgs w x j.toNat).map V.int)) → Q (.ref p) H') : sp_f_figures K [.int x, .int w, .int j] H Q E := ⟨x, w, j, rfl, hw, j0, j1, k⟩
local macro_rules | `(tactic| tm_at "rs") => `(tactic| ((with_reducible refine call_figures ?h ?i ?j (fun _ _ _ _ _ => ?_)); (case h => assumption); (case i => omega); (case j => omega)))
def sp_f_law_figures_right (K : PySem.W.Frag) : Sp := fun vs H Q E => ∃ (x w j : Int), vs = [.int x, .int w, .int j] ∧ 0 ≤ x ∧ 2 ≤ w ∧ w ≤ 1000 ∧ 0 ≤ j ∧ j ≤ 40 ∧ x < 1000000 ∧ ∀ H', Sm H H' → Q (.bl true) H'
theorem call_figRight {K : PySem.W.Frag} {H : Hp} {Q : VK} {E : XK} {x w j : Int} (x0 : 0 ≤ x) (w0 : 2 ≤ w) (w1 : w ≤ 1000) (j0 : 0 ≤ j) (j1 : j ≤ 40) (x1 : x < 1000000) (k : ∀ H', Sm H H' → Q (.bl true) H') : sp_f_law_figures_right K [.int x, .int w, .int j] H Q E := ⟨x, w, j, rfl, x0, w0, w1, j0, j1, x1, k⟩
def sp_f_bits_of (K : PySem.W.Frag) : Sp := fun vs H Q E => ∃ (n : Nat), vs = [.int (n : Int)] ∧ n < 2 ^ 2700 ∧ ∀ (z : Str) (H' : Hp), z.cps.toList = btl n → Sm H H' → Q (.str z) H'
theorem call_bits_of {K : PySem.W.Frag} {H : Hp} {Q : VK} {E : XK} {n : Nat} (hn : n < 2 ^ 2700) (k : ∀ (z : Str) (H' : Hp), z.cps.toList = btl n → Sm H H' → Q (.str z) H') : sp_f_bits_of K [.int (n : Int)] H Q E := ⟨n, rfl, hn, k⟩
def sp_f_fits (K : PySem.W.Frag) : Sp := fun vs H Q E => ∃ (x y : Int), vs = [.int x, .int y] ∧ Q (.bl (decide (Builtin.bitAnd x y = x))) H
theorem call_fits {K : PySem.W.Frag} {H : Hp} {Q : VK} {E : XK} {x y : Int} (k : Q (.bl (decide (Builtin.bitAnd x y = x))) H) : sp_f_fits K [.int x, .int y] H Q E := ⟨x, y, rfl, k⟩
local macro_rules | `(tactic| tm_at "rs") => `(tactic| with_reducible refine call_fits ?_)
def sp_f_stands_out (K : PySem.W.Frag) : Sp := fun vs H Q E => ∃ (x y : Int), vs = [.int x, .int y] ∧ 0 ≤ x ∧ 0 ≤ y ∧ Q (.int (x - Builtin.bitAnd x y)) H
theorem call_stands_out {K : PySem.W.Frag} {H : Hp} {Q : VK} {E : XK} {x y : Int} (x0 : 0 ≤ x) (y0 : 0 ≤ y) (k : Q (.int (x - Builtin.bitAnd x y)) H) : sp_f_stands_out K [.int x, .int y] H Q E := ⟨x, y, rfl, x0, y0, k⟩
local macro_rules | `(tactic| tm_at "rs") => `(tactic| ((with_reducible refine call_stands_out ?h ?i ?_); (case h => omega); (case i => omega)))
def sp_f_of_bits (K : PySem.W.Frag) : Sp := fun vs H Q E => ∃ (z : Str), vs = [.str z] ∧ z.cps.toList ≠ [] ∧ (∀ c ∈ z.cps.toList, Bit2 c) ∧ ∀ H', Sm H H' → Q (.int (num2 z.cps.toList : Nat)) H'
theorem call_of_bits {K : PySem.W.Frag} {H : Hp} {Q : VK} {E : XK} {z : Str} (hne : z.cps.toList ≠ []) (hb : ∀ c ∈ z.cps.toList, Bit2 c) (k : ∀ H', Sm H H' → Q (.int (num2 z.cps.toList : Nat)) H') : sp_f_of_bits K [.str z] H Q E := ⟨z, rfl, hne, hb, k⟩
def sp_f_how_many (K : PySem.W.Frag) : Sp := fun vs H Q E => ∃ (x : Int), vs = [.int x] ∧ 0 ≤ x ∧ Q (.int (pc x.toNat : Nat)) H
theorem call_how_many {K : PySem.W.Frag} {H : Hp} {Q : VK} {E : XK} {x : Int} (x0 : 0 ≤ x) (k : Q (.int (pc x.toNat : Nat)) H) : sp_f_how_many K [.int x] H Q E := ⟨x, rfl, x0, k⟩
local macro_rules | `(tactic| tm_at "rs") => `(tactic| ((with_reducible refine call_how_many ?h ?_); (case h => omega)))
def sp_f_law_bits_right (K : PySem.W.Frag) : Sp := fun vs H Q E => ∃ (n m : Nat), vs = [.int (n : Int), .int (m : Int)] ∧ n ≤ 1000 ∧ m ≤ 1000 ∧ ∀ H', Sm H H' → Q (.bl true) H'
theorem call_bitsRight {K : PySem.W.Frag} {H : Hp} {Q : VK} {E : XK} {n m : Nat} (n1 : n ≤ 1000) (m1 : m ≤ 1000) (k : ∀ H', Sm H H' → Q (.bl true) H') : sp_f_law_bits_right K [.int (n : Int), .int (m : Int)] H Q E := ⟨n, m, rfl, n1, m1, k⟩
def sp_f_choose (K : PySem.W.Frag) : Sp := fun vs H Q E => ∃ (n j : Int), vs = [.int n, .int j] ∧ 0 ≤ n ∧ n ≤ 100000 ∧ 0 ≤ j ∧ Q (.int (ch n.toNat j.toNat : Nat)) H
theorem call_choose {K : PySem.W.Frag} {H : Hp} {Q : VK} {E : XK} {n j : Int} (n0 : 0 ≤ n) (n1 : n ≤ 100000) (j0 : 0 ≤ j) (k : Q (.int (ch n.toNat j.toNat : Nat)) H) : sp_f_choose K [.int n, .int j] H Q E := ⟨n, j, rfl, n0, n1, j0, k⟩
local macro_rules | `(tactic| tm_at "rs") => `(tactic| ((with_reducible refine call_choose ?h ?i ?j ?_); (case h => omega); (case i => omega); (case j => omega)))
def sp_f_halvings (K : PySem.W.Frag) : Sp := fun vs H Q E => ∃ (n : Int), vs = [.int n] ∧ 0 < n ∧ Q (.int (v2 n.toNat : Nat)) H
theorem call_halvings {K : PySem.W.Frag} {H : Hp} {Q : VK} {E : XK} {n : Int} (h : 0 < n) (k : Q (.int (v2 n.toNat : Nat)) H) : sp_f_halvings K [.int n] H Q E := ⟨n, rfl, h, k⟩
local macro_rules | `(tactic| tm_at "rs") => `(tactic| ((with_reducible refine call_halvings ?h ?_); (case h => first | assumption | omega)))
def sp_f_carries (K : PySem.W.Frag) : Sp := fun vs H Q E => ∃ (x y : Int), vs = [.int x, .int y] ∧ 0 ≤ x ∧ 0 ≤ y ∧ Q (.int (cr x.toNat y.toNat 0 : Nat)) H
theorem call_carries {K : PySem.W.Frag} {H : Hp} {Q : VK} {E : XK} {x y : Int} (x0 : 0 ≤ x) (y0 : 0 ≤ y) (k : Q (.int (cr x.toNat y.toNat 0 : Nat)) H) : sp_f_carries K [.int x, .int y] H Q E := ⟨x, y, rfl, x0, y0, k⟩
local macro_rules | `(tactic| tm_at "rs") => `(tactic| ((with_reducible refine call_carries ?h ?i ?_); (case h => omega); (case i => omega)))
def sp_f_is_odd (K : PySem.W.Frag) : Sp := fun vs H Q E => ∃ (n j : Int), vs = [.int n, .int j] ∧ Q (.bl (decide (Builtin.bitAnd j n = j))) H
theorem call_is_odd {K : PySem.W.Frag} {H : Hp} {Q : VK} {E : XK} {n j : Int} (k : Q (.bl (decide (Builtin.bitAnd j n = j))) H) : sp_f_is_odd K [.int n, .int j] H Q E := ⟨n, j, rfl, k⟩
local macro_rules | `(tactic| tm_at "rs") => `(tactic| with_reducible refine call_is_odd ?_)
def sp_f_risen (K : PySem.W.Frag) : Sp := fun vs H Q E => ∃ (b t : Nat), vs = [.int (b : Int), .int (t : Int)] ∧ 1 ≤ b ∧ (∃ B, B ≤ 60000000 ∧ b ^ t < 2 ^ B) ∧ Q (.int ((b ^ t : Nat) : Int)) H
theorem call_risen {K : PySem.W.Frag} {H : Hp} {Q : VK} {E : XK} {b t : Nat} (b1 : 1 ≤ b) (hB : ∃ B, B ≤ 60000000 ∧ b ^ t < 2 ^ B) (k : Q (.int ((b ^ t : Nat) : Int)) H) : sp_f_risen K [.int (b : Int), .int (t : Int)] H Q E := ⟨b, t, rfl, b1, hB, k⟩
def sp_f_figure_of_power (K : PySem.W.Frag) : Sp := fun vs H Q E => ∃ (n j : Int), vs = [.int n, .int j] ∧ 0 ≤ n ∧ n ≤ 1000 ∧ 0 ≤ j ∧ j ≤ 1000000 ∧ Q (.int (ch n.toNat j.toNat : Nat)) H
theorem call_fop {K : PySem.W.Frag} {H : Hp} {Q : VK} {E : XK} {n j : Int} (n0 : 0 ≤ n) (n1 : n ≤ 1000) (j0 : 0 ≤ j) (j1 : j ≤ 1000000) (k : Q (.int (ch n.toNat j.toNat : Nat)) H) : sp_f_figure_of_power K [.int n, .int j] H Q E := ⟨n, j, rfl, n0, n1, j0, j1, k⟩
local macro_rules | `(tactic| tm_at "rs") => `(tactic| ((with_reducible refine call_fop ?h ?i ?j ?l ?_); (case h => omega); (case i => omega); (case j => omega); (case l => omega)))
def sp_f_law_choosing_right (K : PySem.W.Frag) : Sp := fun vs H Q E => ∃ (n m : Nat), vs = [.int (n : Int), .int (m : Int)] ∧ n ≤ 100 ∧ m ≤ 100 ∧ ∀ H', Sm H H' → Q (.bl true) H'
theorem call_choosingRight {K : PySem.W.Frag} {H : Hp} {Q : VK} {E : XK} {n m : Nat} (n1 : n ≤ 100) (m1 : m ≤ 100) (k : ∀ H', Sm H H' → Q (.bl true) H') : sp_f_law_choosing_right K [.int (n : Int), .int (m : Int)] H Q E := ⟨n, m, rfl, n1, m1, k⟩
def spR_f_led (K : PySem.W.Frag) : Nat → Sp
  | 0 => fun _ _ _ _ => False
  | m + 1 => fun vs H Q E => ∃ (v : V) (d : Addr) (t : Tm) (kvs : List (Key × V)), vs = [v, .ref d] ∧ TmAt K H t v ∧ H d = some (.dK kvs) ∧ TxD kvs ∧ TmN t ∧ t.dep ≤ m ∧ ∀ v' H', Sm H H' → TmAt K H' (t.led kvs) v' → Q v' H'
abbrev sp_f_led (K : PySem.W.Frag) : Sp := spR_f_led K 6
theorem call_led {K : PySem.W.Frag} {n : Nat} {H : Hp} {Q : VK} {E : XK} {v : V} {d : Addr} {t : Tm} {kvs : List (Key × V)} (hv : TmAt K H t v) (hd : H d = some (.dK kvs)) (hx : TxD kvs) (hn : TmN t) (hm : t.dep ≤ n) (k : ∀ v' H', Sm H H' → TmAt K H' (t.led kvs) v' → Q v' H') : spR_f_led K (n + 1) [v, .ref d] H Q E := ⟨v, d, t, kvs, rfl, hv, hd, hx, hn, hm, k⟩
def sp_f_renamed (K : PySem.W.Frag) : Sp := fun vs H Q E => ∃ (v : V) (d : Addr) (w : Str) (l r : V) (a b : Tm) (kvs : List (Key × V)), vs = [v, .ref d] ∧ SayAt K H v w l r ∧ TmAt K H a l ∧ TmAt K H b r ∧ (w = "same" ∨ w = "under") ∧ H d = some (.dK kvs) ∧ TxD kvs ∧ TmN a ∧ TmN b ∧ a.dep ≤ 5 ∧ b.dep ≤ 5 ∧ ∀ q l' r' H', Sm H H' → SayAt K H' q w l' r' → TmAt K H' (a.led kvs) l' → TmAt K H' (b.led kvs) r' → Q q H'
theorem call_renamed {K : PySem.W.Frag} {H : Hp} {Q : VK} {E : XK} {v : V} {d : Addr} {w : Str} {l r : V} {a b : Tm} {kvs : List (Key × V)} (hv : SayAt K H v w l r) (ha : TmAt K H a l) (hb : TmAt K H b r) (hw : w = "same" ∨ w = "under") (hd : H d = some (.dK kvs)) (hx : TxD kvs) (na : TmN a) (nb : TmN b) (da : a.dep ≤ 5) (db : b.dep ≤ 5) (k : ∀ q l' r' H', Sm H H' → SayAt K H' q w l' r' → TmAt K H' (a.led kvs) l' → TmAt K H' (b.led kvs) r' → Q q H') : sp_f_renamed K [v, .ref d] H Q E := ⟨v, d, w, l, r, a, b, kvs, rfl, hv, ha, hb, hw, hd, hx, na, nb, da, db, k⟩
def sp_f_let_by (K : PySem.W.Frag) : Sp := fun vs H Q E => ∃ (x : Int) (m : Nat), vs = [.int x] ∧ x.natAbs < 2 ^ m ∧ m ≤ 1000000 ∧ Q (.int x) H
theorem call_let_by {K : PySem.W.Frag} {H : Hp} {Q : VK} {E : XK} {x : Int} {m : Nat} (hx : x.natAbs < 2 ^ m) (hm : m ≤ 1000000) (k : Q (.int x) H) : sp_f_let_by K [.int x] H Q E := ⟨x, m, rfl, hx, hm, k⟩
def sp_f_power_of (K : PySem.W.Frag) : Sp := fun vs H Q E => ∃ (b e m : Nat), vs = [.int (b : Int), .int (e : Int)] ∧ b < 2 ^ m ∧ 1 ≤ m ∧ PwOk b e m ∧ Q (.int ((b ^ e : Nat) : Int)) H
theorem call_power_of {K : PySem.W.Frag} {H : Hp} {Q : VK} {E : XK} {b e m : Nat} (hb : b < 2 ^ m) (m1 : 1 ≤ m) (hm : PwOk b e m) (k : Q (.int ((b ^ e : Nat) : Int)) H) : sp_f_power_of K [.int (b : Int), .int (e : Int)] H Q E := ⟨b, e, m, rfl, hb, m1, hm, k⟩
def sp_f_product (K : PySem.W.Frag) : Sp := fun vs H Q E => ∃ (x y n m : Nat), vs = [.int (x : Int), .int (y : Int)] ∧ x < 2 ^ n ∧ y < 2 ^ m ∧ n + m ≤ 1000000 ∧ Q (.int ((x * y : Nat) : Int)) H
theorem call_product {K : PySem.W.Frag} {H : Hp} {Q : VK} {E : XK} {x y n m : Nat} (hx : x < 2 ^ n) (hy : y < 2 ^ m) (hm : n + m ≤ 1000000) (k : Q (.int ((x * y : Nat) : Int)) H) : sp_f_product K [.int (x : Int), .int (y : Int)] H Q E := ⟨x, y, n, m, rfl, hx, hy, hm, k⟩
def sp_f_come_to (K : PySem.W.Frag) : Sp := fun vs H Q E => ∃ (w : Str) (x y : Nat), vs = [.str w, .int (x : Int), .int (y : Int)] ∧ CmOk w x y ∧ Q (.int ((cm w x y : Nat) : Int)) H
theorem call_come_to {K : PySem.W.Frag} {H : Hp} {Q : VK} {E : XK} {w : Str} {x y : Nat} (hc : CmOk w x y) (k : Q (.int ((cm w x y : Nat) : Int)) H) : sp_f_come_to K [.str w, .int (x : Int), .int (y : Int)] H Q E := ⟨w, x, y, rfl, hc, k⟩
def sp_f_number_of (K : PySem.W.Frag) : Sp := fun vs H Q E => ∃ (s : Str) (d : Addr) (kvs : List (Key × V)) (x : Int), vs = [.str s, .ref d] ∧ H d = some (.dK kvs) ∧ valV kvs (.inr s) = some (.int x) ∧ Q (.int x) H
theorem call_number_of {K : PySem.W.Frag} {H : Hp} {Q : VK} {E : XK} {s : Str} {d : Addr} {kvs : List (Key × V)} {x : Int} (hd : H d = some (.dK kvs)) (hv : valV kvs (.inr s) = some (.int x)) (k : Q (.int x) H) : sp_f_number_of K [.str s, .ref d] H Q E := ⟨s, d, kvs, x, rfl, hd, hv, k⟩
def sp_f_worth (K : PySem.W.Frag) : Sp := fun vs H Q E => ∃ (v : V) (d : Addr) (t : Tm) (kvs : List (Key × V)) (g : Str → Nat), vs = [v, .ref d] ∧ TmAt K H t v ∧ H d = some (.dK kvs) ∧ TmOk kvs g t ∧ t.wt ≤ 10000 ∧ ∀ H', Sm H H' → Q (.int ((ev g t : Nat) : Int)) H'
theorem call_worth {K : PySem.W.Frag} {H : Hp} {Q : VK} {E : XK} {v : V} {d : Addr} {t : Tm} {kvs : List (Key × V)} {g : Str → Nat} (hv : TmAt K H t v) (hd : H d = some (.dK kvs)) (ht : TmOk kvs g t) (hw : t.wt ≤ 10000) (k : ∀ H', Sm H H' → Q (.int ((ev g t : Nat) : Int)) H') : sp_f_worth K [v, .ref d] H Q E := ⟨v, d, t, kvs, g, rfl, hv, hd, ht, hw, k⟩
def sp_f_holds (K : PySem.W.Frag) : Sp := fun vs H Q E => ∃ (v : V) (d : Addr) (w : Str) (l r : V) (a b : Tm) (kvs : List (Key × V)) (g : Str → Nat), vs = [v, .ref d] ∧ SayAt K H v w l r ∧ TmAt K H a l ∧ TmAt K H b r ∧ H d = some (.dK kvs) ∧ TmOk kvs g a ∧ TmOk kvs g b ∧ a.wt ≤ 10000 ∧ b.wt ≤ 10000 ∧ ∀ H', Sm H H' → Q (.bl (if w = "under" then decide (ev g a &&& ev g b = ev g a) else decide (ev g a = ev g b))) H'
theorem call_holds {K : PySem.W.Frag} {H : Hp} {Q : VK} {E : XK} {v : V} {d : Addr} {w : Str} {l r : V} {a b : Tm} {kvs : List (Key × V)} {g : Str → Nat} (hs : SayAt K H v w l r) (ha : TmAt K H a l) (hb : TmAt K H b r) (hd : H d = some (.dK kvs)) (oa : TmOk kvs g a) (ob : TmOk kvs g b) (wa : a.wt ≤ 10000) (wb : b.wt ≤ 10000)
    (k : ∀ H', Sm H H' → Q (.bl (if w = "under" then decide (ev g a &&& ev g b = ev g a) else decide (ev g a = ev g b))) H') : sp_f_holds K [v, .ref d] H Q E := ⟨v, d, w, l, r, a, b, kvs, g, rfl, hs, ha, hb, hd, oa, ob, wa, wb, k⟩
def sp_f_off (K : PySem.W.Frag) : Sp := fun vs H Q E => ∃ (v : V) (d : Addr) (w : Str) (l r : V) (a b : Tm) (kvs : List (Key × V)) (g : Str → Nat), vs = [v, .ref d] ∧ SayAt K H v w l r ∧ TmAt K H a l ∧ TmAt K H b r ∧ H d = some (.dK kvs) ∧ TmOk kvs g a ∧ TmOk kvs g b ∧ a.wt ≤ 10000 ∧ b.wt ≤ 10000 ∧ ∀ H', Sm H H' → Q (.int (offI w (ev g a) (ev g b))) H'
theorem call_off {K : PySem.W.Frag} {H : Hp} {Q : VK} {E : XK} {v : V} {d : Addr} {w : Str} {l r : V} {a b : Tm} {kvs : List (Key × V)} {g : Str → Nat} (hs : SayAt K H v w l r) (ha : TmAt K H a l) (hb : TmAt K H b r) (hd : H d = some (.dK kvs)) (oa : TmOk kvs g a) (ob : TmOk kvs g b) (wa : a.wt ≤ 10000) (wb : b.wt ≤ 10000)
    (k : ∀ H', Sm H H' → Q (.int (offI w (ev g a) (ev g b))) H') : sp_f_off K [v, .ref d] H Q E := ⟨v, d, w, l, r, a, b, kvs, g, rfl, hs, ha, hb, hd, oa, ob, wa, wb, k⟩
def sp_f_first_wrong (K : PySem.W.Frag) : Sp := fun vs H Q E => ∃ (p d : Addr) (xs : List V) (bs : List Bool) (kvs : List (Key × V)) (g : Str → Nat), vs = [.ref p, .ref d] ∧ (H p = some (.lst xs) ∨ H p = some (.tup xs)) ∧ Paired (HoldsOk K H kvs g) xs bs ∧ H d = some (.dK kvs) ∧ ∀ H', Sm H H' → Q (natV (firstF bs)) H'
theorem call_firstWrong {K : PySem.W.Frag} {H : Hp} {Q : VK} {E : XK} {p d : Addr} {xs : List V} {bs : List Bool} {kvs : List (Key × V)} {g : Str → Nat} (hp : H p = some (.lst xs) ∨ H p = some (.tup xs)) (hx : Paired (HoldsOk K H kvs g) xs bs) (hd : H d = some (.dK kvs)) (k : ∀ H', Sm H H' → Q (natV (firstF bs)) H') : sp_f_first_wrong K [.ref p, .ref d] H Q E := ⟨p, d, xs, bs, kvs, g, rfl, hp, hx, hd, k⟩
def sp_f_far_off (K : PySem.W.Frag) : Sp := fun vs H Q E => ∃ (p d : Addr) (xs : List V) (ns : List Int) (kvs : List (Key × V)) (g : Str → Nat), vs = [.ref p, .ref d] ∧ (H p = some (.lst xs) ∨ H p = some (.tup xs)) ∧ Paired (F45 K H kvs g) xs ns ∧ H d = some (.dK kvs) ∧ xs.length ≤ 200 ∧ ∀ H', Sm H H' → Q (.int ns.sum) H'
theorem call_far {K : PySem.W.Frag} {H : Hp} {Q : VK} {E : XK} {p d : Addr} {xs : List V} {ns : List Int} {kvs : List (Key × V)} {g : Str → Nat} (hp : H p = some (.lst xs) ∨ H p = some (.tup xs)) (hx : Paired (F45 K H kvs g) xs ns) (hd : H d = some (.dK kvs)) (hl : xs.length ≤ 200) (k : ∀ H', Sm H H' → Q (.int ns.sum) H') : sp_f_far_off K [.ref p, .ref d] H Q E := ⟨p, d, xs, ns, kvs, g, rfl, hp, hx, hd, hl, k⟩
def sp_f_Saying__eq (K : PySem.W.Frag) : Sp := fun vs H Q E => ∃ (a b : Addr) (w : Str) (l1 r1 l2 r2 : V) (x y : Tm), vs = [.ref a, .ref b] ∧ SayAt K H (.ref a) w l1 r1 ∧ SayAt K H (.ref b) w l2 r2 ∧ TmAt K H x l1 ∧ TmAt K H y r1 ∧ TmAt K H x l2 ∧ TmAt K H y r2 ∧ TmL (.op w x y) ∧ x.dep ≤ 2900 ∧ y.dep ≤ 2900 ∧ ∀ H', Sm H H' → Q (.bl true) H'
theorem call_sayEq {K : PySem.W.Frag} {H : Hp} {Q : VK} {E : XK} {a b : Addr} {w : Str} {l1 r1 l2 r2 : V} {x y : Tm} (ha : SayAt K H (.ref a) w l1 r1) (hb : SayAt K H (.ref b) w l2 r2) (x1 : TmAt K H x l1) (y1 : TmAt K H y r1) (x2 : TmAt K H x l2) (y2 : TmAt K H y r2) (lw : TmL (.op w x y)) (d1 : x.dep ≤ 2900) (d2 : y.dep ≤ 2900) (k : ∀ H', Sm H H' → Q (.bl true) H') : sp_f_Saying__eq K [.ref a, .ref b] H Q E := ⟨a, b, w, l1, r1, l2, r2, x, y, rfl, ha, hb, x1, y1, x2, y2, lw, d1, d2, k⟩
theorem eq_say {K : PySem.W.Frag} {H : Hp} {Q : VK} {E : XK} {C a b : Addr} {w : Str} {l1 r1 l2 r2 : V} {x y : Tm} (hC : SayC K C) (ha : SayAt K H (.ref a) w l1 r1) (hb : SayAt K H (.ref b) w l2 r2) (x1 : TmAt K H x l1) (y1 : TmAt K H y r1) (x2 : TmAt K H x l2) (y2 : TmAt K H y r2) (lw : TmL (.op w x y)) (d1 : x.dep ≤ 2900) (d2 : y.dep ≤ 2900) (k : ∀ H', Sm H H' → Q (.bl true) H') : rEqO C (sp_f_Saying__eq K) E (.ref a) (.ref b) H Q := by
  obtain ⟨p1, C1, dx1, e1, c1, g1⟩ := id ha
  obtain ⟨p2, C2, dx2, e2, c2, g2⟩ := id hb
  cases e1
  cases e2
  obtain rfl := sayc_eq c1 hC
  obtain rfl := sayc_eq c2 hC
  exact w_eqO g1 g2 (call_sayEq ha hb x1 y1 x2 y2 lw d1 d2 k)
theorem ne_say {K : PySem.W.Frag} {H : Hp} {Q : VK} {E : XK} {C a b : Addr} {w : Str} {l1 r1 l2 r2 : V} {x y : Tm} (hC : SayC K C) (ha : SayAt K H (.ref a) w l1 r1) (hb : SayAt K H (.ref b) w l2 r2) (x1 : TmAt K H x l1) (y1 : TmAt K H y r1) (x2 : TmAt K H x l2) (y2 : TmAt K H y r2) (lw : TmL (.op w x y)) (d1 : x.dep ≤ 2900) (d2 : y.dep ≤ 2900) (k : ∀ H', Sm H H' → Q (.bl false) H') : rNeO C (sp_f_Saying__eq K) E (.ref a) (.ref b) H Q := by
  obtain ⟨p1, C1, dx1, e1, c1, g1⟩ := id ha
  obtain ⟨p2, C2, dx2, e2, c2, g2⟩ := id hb
  cases e1
  cases e2
  obtain rfl := sayc_eq c1 hC
  obtain rfl := sayc_eq c2 hC
  exact w_neO g1 g2 (call_sayEq ha hb x1 y1 x2 y2 lw d1 d2 fun H' s => ⟨_, rfl, k H' s⟩)
def sp_f_law_looking_right (K : PySem.W.Frag) : Sp := fun vs H Q E => ∃ (n m : Nat) (w : Str), vs = [.int (n : Int), .int (m : Int), .str w] ∧ n ≤ 100 ∧ m ≤ 100 ∧ (w = "same" ∨ w = "under") ∧ ∀ H', Sm H H' → Q (.bl true) H'
theorem call_lookRight {K : PySem.W.Frag} {H : Hp} {Q : VK} {E : XK} {n m : Nat} {w : Str} (n1 : n ≤ 100) (m1 : m ≤ 100) (hw : w = "same" ∨ w = "under") (k : ∀ H', Sm H H' → Q (.bl true) H') : sp_f_law_looking_right K [.int (n : Int), .int (m : Int), .str w] H Q E := ⟨n, m, w, rfl, n1, m1, hw, k⟩
def sp_f_law (K : PySem.W.Frag) : Sp := fun vs H Q E => ∃ (a : Addr) (ns : List Int), vs = [.ref a] ∧ SqF K H a (ns.map V.int) ∧ ns.length ≤ 63 ∧ ∀ H', Q (.bl true) H'
theorem ne_sayU {K : PySem.W.Frag} {H : Hp} {Q : VK} {E : XK} {C : Addr} {u v : V} {ab : Tm × Tm} (hC : SayC K C) (hu : SayT K H u ab) (hv : SayT K H v ab) (lw : TmL (.op "same" ab.1 ab.2)) (d1 : ab.1.dep ≤ 2900) (d2 : ab.2.dep ≤ 2900) (k : ∀ H', Sm H H' → Q (.bl false) H') : rNeO C (sp_f_Saying__eq K) E u v H Q := by
  obtain ⟨lu, ru, su, xu, yu⟩ := hu
  obtain ⟨lv, rv, sv, xv, yv⟩ := hv
  obtain ⟨p1, C1, e1, rfl, c1, g1⟩ := id su
  obtain ⟨p2, C2, e2, rfl, c2, g2⟩ := id sv
  exact ne_say hC su sv xu yu xv yv lw d1 d2 k
section
variable {P : Program} {w : World} {K : PySem.W.Frag} {mg : Str → Option Value} {base : Heap}
/-! ### _law_box -/
theorem ok_f_law_box {f : Addr} {fd : FuncData} (F : Fun K "_law_box" "_law_box" s_f_law_box f fd)
    (m_len : mg "len" = none)
    (m_int : mg "int" = none) :
    FnG P w K mg base CX0 1 f fd ["script", "at"] (sp_f_law_box K) := by
  refine okG F sc_f_law_box (fun vs H Q E h => ?_) (fun cdv A outer s H vs Q E hr h => ⟨_, (pss_cons (ps_set (i := 2) sc_f_law_box.nd rfl (by first | exact Or.inl rfl | exact Or.inr rfl) (pe_op (op_gAdd (K := K) rfl) (pe_op op_gMul pe_int (pv 1)) pe_int))
    (pss_cons (ps_if (pt_cmpR op_gLt (pv 1) (pe_callB (call_gLen (K := K) rfl) (by rfl) m_len PySem.boot_len (pa_cons (pv 0) pa_nil)) (nomark _)) (pss_one (ps_set (i := 2) sc_f_law_box.nd rfl (by first | exact Or.inl rfl | exact Or.inr rfl) (pe_ix (ix_g (K := K) rfl) (pv 0) (pv 1) (fun _ _ => rfl)))) (pss_one (ps_if (pt_cmpR op_gGt (pe_callB (call_gLen (K := K) rfl) (by rfl) m_len PySem.boot_len (pa_cons (pv 0) pa_nil)) pe_int (nomark _)) (pss_one (ps_set (i := 2) sc_f_law_box.nd rfl (by first | exact Or.inl rfl | exact Or.inr rfl) (pe_op (op_gAdd (K := K) rfl) (pv 2) (pe_op op_gMul (pe_op op_gMod (pe_ix (ix_g (K := K) rfl) (pv 0) (pe_op op_gMod (pv 1) (pe_callB (call_gLen (K := K) rfl) (by rfl) m_len PySem.boot_len (pa_cons (pv 0) pa_nil))) (fun _ _ => rfl)) pe_int) pe_int)))) pss_nil)))
    (pss_cons (ps_set (i := 3) sc_f_law_box.nd rfl (by first | exact Or.inl rfl | exact Or.inr rfl) (pe_op (op_gAdd (K := K) rfl) (pe_op op_gMod (pe_op (op_gAdd (K := K) rfl) (pe_op op_gMul (pe_op op_gMod (pv 2) pe_int) pe_int) (pe_op op_gMul pe_int (pv 1))) pe_int) pe_int))
    (pss_one (ps_ret (pe_lst (pa_cons (pe_ix (ix_g (K := K) rfl) (pe_lst (pa_cons pe_int (pa_cons (pv 2) pa_nil))) (pe_callTy call_gInt (by rfl) m_int PyProof.Rows.boot_int (pa_cons (pe_cmpR op_gGe (pv 2) (pe_op op_gPow pe_int pe_int) (nomark _)) pa_nil)) (fun _ _ => rfl)) (pa_cons (pv 3) pa_nil)))))))), ?_⟩)
  · obtain ⟨_, _, _, rfl, _⟩ := h
    rfl
  · obtain ⟨a, ns, i, rfl, hS, h0, h1, k⟩ := h
    try dsimp only [cxOf, Cx.nox, Cx.wish]
    change (_ : L2.TS) _ [some (.ref a), some (.int i), none, none] _
    refine w_start ?_
    have big : (0 : Int) ≤ 10 ^ Int.toNat 18 := by decide
    repeat' (tm_at "rs")
    · refine w_ixInts hS h0 (by assumption) (fun n _ => ?_)
      repeat' (tm_at "rs")
      all_goals refine k _ _ ?_ ?_ ⟨_, _, by assumption, by omega, by omega, by omega⟩
      all_goals tm_at "rz"
    · rename_i z z1 z2 z3 z4
      refine w_ixInts hS z2 z3 (fun n _ => ?_)
      repeat' (tm_at "rs")
      all_goals refine k _ _ ?_ ?_ ⟨_, _, by assumption, by omega, by omega, by omega⟩
      all_goals tm_at "rz"
    all_goals refine k _ _ ?_ ?_ ⟨_, _, by assumption, by omega, by omega, by omega⟩
    all_goals tm_at "rz"
/-! ### _law_take -/
theorem ok_f_law_take {f : Addr} {fd : FuncData} (F : Fun K "_law_take" "_law_take" s_f_law_take f fd) :
    FnG P w K mg base CX0 1 f fd ["box", "wide"] (sp_f_law_take K) := by
  refine okG F sc_f_law_take (fun vs H Q E h => ?_) (fun cdv A outer s H vs Q E hr h => ⟨_, (pss_cons (ps_if (pt_cmpR op_gGt (pe_ix (ix_g (K := K) rfl) (pv 0) pe_int (fun _ _ => rfl)) pe_int (nomark _)) (pss_cons (ps_set (i := 2) sc_f_law_take.nd rfl (by first | exact Or.inl rfl | exact Or.inr rfl) (pe_op op_gMod (pe_ix (ix_g (K := K) rfl) (pv 0) pe_int (fun _ _ => rfl)) (pv 1)))
    (pss_cons (ps_asg (pe_op op_gDiv (pe_ix (ix_g (K := K) rfl) (pv 0) pe_int (fun _ _ => rfl)) (pv 1)) (pg_sub (pv 0) pe_int set_list))
    (pss_one (ps_ret (pv 2))))) pss_nil)
    (pss_cons (ps_set (i := 3) sc_f_law_take.nd rfl (by first | exact Or.inl rfl | exact Or.inr rfl) (pe_op op_gMod (pe_op op_gMul (pe_ix (ix_g (K := K) rfl) (pv 0) pe_int (fun _ _ => rfl)) pe_int) pe_int))
    (pss_cons (ps_asg (pe_op (op_gAdd (K := K) rfl) (pe_op op_gMod (pe_op (op_gAdd (K := K) rfl) (pe_op op_gMul (pv 3) pe_int) pe_int) pe_int) pe_int) (pg_sub (pv 0) pe_int set_list))
    (pss_one (ps_ret (pe_op op_gMod (pe_op op_gDiv (pe_op (op_gAdd (K := K) rfl) (pe_op op_gMul (pv 3) pe_int) (pe_ix (ix_g (K := K) rfl) (pv 0) pe_int (fun _ _ => rfl))) pe_int) (pv 1))))))), ?_⟩)
  · obtain ⟨_, _, rfl, _⟩ := h
    rfl
  · obtain ⟨b, w, rfl, hB, hw, k⟩ := h
    try dsimp only [cxOf, Cx.nox, Cx.wish]
    change (_ : L2.TS) _ [some (.ref b), some (.int w), none, none] _
    refine w_start ?_
    obtain ⟨x, s, hb, hx, hs, hs2⟩ := hB
    obtain ⟨hw0, hw1⟩ := hw
    repeat' (tm_at "rs")
    · refine k _ _ (by omega) (by omega) (by assumption) ⟨_, _, by assumption, ?_, hs, hs2⟩
      exact Int.ediv_nonneg hx (by omega)
    · refine k _ _ (by omega) (by omega) (by assumption) ⟨_, _, by assumption, hx, ?_, ?_⟩
      · omega
      · omega
/-! ### Saying.__init__ -/
theorem ok_f_Saying__init {f : Addr} {fd : FuncData} (F : Fun K "__init__" "Saying.__init__" s_f_Saying__init f fd) {a_WORDS : Addr}
    (c_WORDS : mg "WORDS" = some (.ref a_WORDS))
    (d_WORDS : KDs K w a_WORDS ["same", "under"]) :
    FnG P w K mg base CX0 1 f fd ["self", "word", "left", "right"] (sp_f_Saying__init K) := by
  refine okG F sc_f_Saying__init (fun vs H Q E h => ?_) (fun cdv A outer s H vs Q E hr h => ⟨_, (pss_cons (ps_if (pt_cmp (pc_niK (pv 1) (pe_glob (v := .ref a_WORDS) rfl c_WORDS rfl))) (pss_one ps_never) pss_nil)
    (pss_cons (ps_fld (pv 0) (pv 1) rfl)
    (pss_cons (ps_fld (pv 0) (pv 2) rfl)
    (pss_one (ps_fld (pv 0) (pv 3) rfl))))), ?_⟩)
  · obtain ⟨_, _, _, _, _, _, rfl, _⟩ := h
    rfl
  · obtain ⟨p, C, dx, w, l, r, rfl, hp, hC, hw, k⟩ := h
    try dsimp only [cxOf, Cx.nox, Cx.wish]
    change (_ : L2.TS) _ [some (.ref p), some (.str w), some (l), some (r)] _
    refine w_start ?_
    repeat' (tm_at "rs")
    refine w_nie d_WORDS (by rcases hw with rfl | rfl <;> simp) ?_
    repeat' (tm_at "rs")
    refine w_sfldE hp hC.cl (hC.na _ (by simp)) (by show 0 < 1000; decide) (fun H1 k1 g1 => ?_)
    repeat' (tm_at "rs")
    refine w_sfldE g1 hC.cl (hC.na _ (by simp)) (by show 1 < 1000; decide) (fun H2 k2 g2 => ?_)
    repeat' (tm_at "rs")
    refine w_sfldE g2 hC.cl (hC.na _ (by simp)) (by show 2 < 1000; decide) (fun H3 k3 g3 => ?_)
    repeat' (tm_at "rs")
    exact k _ (Kp.trans k1 (Kp.trans k2 k3)) g3
/-! ### need_same -/
theorem ok_f_need_same {f : Addr} {fd : FuncData} (F : Fun K "need_same" "need_same" s_f_need_same f fd)
    (m_enumerate : mg "enumerate" = none) :
    FnG P w K mg base CX0 1 f fd ["sayings"] (sp_f_need_same K) := by
  refine okG F sc_f_need_same (fun vs H Q E h => ?_) (fun cdv A outer s H vs Q E hr h => ⟨_, (pss_one (ps_for PassesOwn.never rfl (pi_or (pi_enum (by rfl) m_enumerate (pa_cons (pv 0) pa_nil)) (pi_enT (by rfl) m_enumerate (pa_cons (pv 0) pa_nil))) (pg_gt (K := K) (n := 2) rfl rfl (pgs_cons (pg_name (i := 1) sc_f_need_same.nd rfl (by first | exact Or.inl rfl | exact Or.inr rfl)) (pgs_cons (pg_name (i := 2) sc_f_need_same.nd rfl (by first | exact Or.inl rfl | exact Or.inr rfl)) pgs_nil))) (pss_one (ps_if (pt_cmpR (op_gNe (K := K) rfl hr.units) (pe_fld (pv 2) rfl) pe_str (nomark _)) (pss_one ps_never) pss_nil)))), ?_⟩)
  · obtain ⟨_, _, rfl, _⟩ := h
    rfl
  · obtain ⟨p, xs, rfl, hp, hx, k⟩ := h
    try dsimp only [cxOf, Cx.nox, Cx.wish]
    change (_ : L2.TS) _ [some (.ref p), none, none] _
    refine w_start ?_
    repeat' (tm_at "rs")
    rcases hp with hp | hp
    · refine .inl ?_
      repeat' (tm_at "rs")
      refine loopEn (xs := xs) (fun i σ' H' => ∃ (x1 x2 : Option V), σ' = [some (.ref p), x1, x2] ∧ Sm H H') ⟨_, _, rfl, Same.refl _⟩ ?_ ?_ ?_
      · rintro i σ' H' hi ⟨x1, x2, rfl, hs⟩
        exact sq_of (hs _ _ hp)
      · rintro i x T σ' H1 H2 hi hxi ⟨x1, x2, rfl, hs⟩ nT sT gT
        obtain ⟨l, r, hsay⟩ := hx x (List.mem_of_getElem? hxi)
        have hsay2 := hsay.sm (hs.trans sT)
        repeat' (tm_at "rs")
        all_goals first | (rename_i e; exact absurd rfl e) | exact ⟨_, _, rfl, by tm_at "rsm"⟩
      · rintro σ' H' ⟨x1, x2, rfl, hs⟩
        repeat' (tm_at "rs")
        exact k _ hs
    · refine .inr ?_
      repeat' (tm_at "rs")
      refine loopEt (xs := xs) (fun i σ' H' => ∃ (x1 x2 : Option V), σ' = [some (.ref p), x1, x2] ∧ Sm H H') ⟨_, _, rfl, Same.refl _⟩ ?_ ?_ ?_
      · rintro i σ' H' hi ⟨x1, x2, rfl, hs⟩
        exact st_of (hs _ _ hp)
      · rintro i x T σ' H1 H2 hi hxi ⟨x1, x2, rfl, hs⟩ nT sT gT
        obtain ⟨l, r, hsay⟩ := hx x (List.mem_of_getElem? hxi)
        have hsay2 := hsay.sm (hs.trans sT)
        repeat' (tm_at "rs")
        all_goals first | (rename_i e; exact absurd rfl e) | exact ⟨_, _, rfl, by tm_at "rsm"⟩
      · rintro σ' H' ⟨x1, x2, rfl, hs⟩
        repeat' (tm_at "rs")
        exact k _ hs
/-! ### either -/
theorem ok_f_either {f : Addr} {fd : FuncData} (F : Fun K "either" "either" s_f_either f fd) {C_Saying : Addr}
    (D_f_need_same : Def P w K mg base CX0 "need_same" 1 ["sayings"] (sp_f_need_same K))
    (G_Saying : DefM P w K mg base CX0 "Saying" 1 ["self", "word", "left", "right"] (sp_f_Saying__init K) C_Saying)
    (SC_Saying : ClsN K "Saying" C_Saying ["word", "left", "right"]) :
    FnG P w K mg base CX0 3 f fd ["one", "other"] (sp_f_either K) := by
  refine okG F sc_f_either (fun vs H Q E h => ?_) (fun cdv A outer s H vs Q E hr h => ⟨_, (pss_cons (ps_expr (pe_f D_f_need_same (hr.mono (by omega)) (by rfl) pass0 (pa_cons (pe_lst (pa_cons (pv 0) (pa_cons (pv 1) pa_nil))) pa_nil)))
    (pss_cons (ps_set (i := 2) sc_f_either.nd rfl (by first | exact Or.inl rfl | exact Or.inr rfl) (pe_tup (pa_cons pe_str (pa_cons (pe_tup (pa_cons pe_str (pa_cons (pe_fld (pv 0) rfl) (pa_cons (pe_fld (pv 1) rfl) pa_nil)))) (pa_cons (pe_tup (pa_cons pe_str (pa_cons (pe_fld (pv 0) rfl) (pa_cons (pe_fld (pv 1) rfl) pa_nil)))) pa_nil)))))
    (pss_cons (ps_set (i := 3) sc_f_either.nd rfl (by first | exact Or.inl rfl | exact Or.inr rfl) (pe_tup (pa_cons pe_str (pa_cons (pe_tup (pa_cons pe_str (pa_cons (pe_fld (pv 0) rfl) (pa_cons (pe_fld (pv 1) rfl) pa_nil)))) (pa_cons (pe_tup (pa_cons pe_str (pa_cons (pe_fld (pv 0) rfl) (pa_cons (pe_fld (pv 1) rfl) pa_nil)))) pa_nil)))))
    (pss_one (ps_ret (pe_mk G_Saying (hr.mono (by omega)) (by rfl) pass0 (pa_cons pe_str (pa_cons (pv 2) (pa_cons (pv 3) pa_nil))))))))), ?_⟩)
  · obtain ⟨_, _, _, _, rfl, _⟩ := h
    rfl
  · obtain ⟨u, v, a, b, rfl, hu, hv, k⟩ := h
    try dsimp only [cxOf, Cx.nox, Cx.wish]
    change (_ : L2.TS) _ [some (u), some (v), none, none] _
    refine w_start ?_
    obtain ⟨l1, r1, s1, ta1, tb1⟩ := id hu
    obtain ⟨l2, r2, s2, ta2, tb2⟩ := id hv
    repeat' (tm_at "rs")
    rename_i L H1 nL sL gL
    refine call_needSame (.inl gL) (fun x hx => ?_) (fun H2 s2' => ?_)
    · rcases List.mem_cons.mp hx with rfl | hx
      · exact ⟨_, _, s1.sm sL⟩
      · rw [List.mem_singleton.mp hx]
        exact ⟨_, _, s2.sm sL⟩
    repeat' (tm_at "rs")
    rename_i A HA nA sA gA B HB nB sB gB C HC nC sC gC D HD nD sD gD F HF nF sF gF G HG nG sG gG
    refine mk_say SC_Saying (.inl rfl) (fun z HZ nZ sZ hsay => ?_)
    have tA : TmAt K HA (.op "times" a.1 b.1) (.ref A) := tm_op gA (by tm_at "rtm") (by tm_at "rtm")
    have tB : TmAt K HB (.op "times" a.2 b.2) (.ref B) := tm_op gB (by tm_at "rtm") (by tm_at "rtm")
    have tC : TmAt K HC (.op "plus" (.op "times" a.1 b.1) (.op "times" a.2 b.2)) (.ref C) := tm_op gC (by tm_at "rtm") (by tm_at "rtm")
    have tD : TmAt K HD (.op "times" a.1 b.2) (.ref D) := tm_op gD (by tm_at "rtm") (by tm_at "rtm")
    have tF : TmAt K HF (.op "times" a.2 b.1) (.ref F) := tm_op gF (by tm_at "rtm") (by tm_at "rtm")
    have tG : TmAt K HG (.op "plus" (.op "times" a.1 b.2) (.op "times" a.2 b.1)) (.ref G) := tm_op gG (by tm_at "rtm") (by tm_at "rtm")
    exact k _ _ (by tm_at "rsm") ⟨_, _, hsay, by tm_at "rtm", by tm_at "rtm"⟩
/-! ### sum_of -/
theorem ok_f_sum_of {f : Addr} {fd : FuncData} (F : Fun K "sum_of" "sum_of" s_f_sum_of f fd)
    (m_enumerate : mg "enumerate" = none)
    (m_int : mg "int" = none) :
    FnG P w K mg base CX0 1 f fd ["terms"] (sp_f_sum_of K) := by
  refine okG F sc_f_sum_of (fun vs H Q E h => ?_) (fun cdv A outer s H vs Q E hr h => ⟨_, (pss_cons (ps_set (i := 1) sc_f_sum_of.nd rfl (by first | exact Or.inl rfl | exact Or.inr rfl) (pe_tup (pa_cons pe_str (pa_cons pe_int pa_nil))))
    (pss_cons (ps_for PassesOwn.never rfl (pi_enum (by rfl) m_enumerate (pa_cons (pv 0) pa_nil)) (pg_gt (K := K) (n := 2) rfl rfl (pgs_cons (pg_name (i := 2) sc_f_sum_of.nd rfl (by first | exact Or.inl rfl | exact Or.inr rfl)) (pgs_cons (pg_name (i := 3) sc_f_sum_of.nd rfl (by first | exact Or.inl rfl | exact Or.inr rfl)) pgs_nil))) (pss_one (ps_set (i := 1) sc_f_sum_of.nd rfl (by first | exact Or.inl rfl | exact Or.inr rfl) (pe_ix (ix_g (K := K) rfl) (pe_lst (pa_cons (pe_tup (pa_cons pe_str (pa_cons (pv 1) (pa_cons (pv 3) pa_nil)))) (pa_cons (pv 3) pa_nil))) (pe_callTy call_gInt (by rfl) m_int PyProof.Rows.boot_int (pa_cons (pe_cmpR (op_gEq (K := K) rfl hr.units) (pv 2) pe_int (nomark _)) pa_nil)) (fun _ _ => rfl)))))
    (pss_one (ps_ret (pv 1))))), ?_⟩)
  · obtain ⟨_, _, _, rfl, _⟩ := h
    rfl
  · obtain ⟨p, xs, ts, rfl, hp, hx, k⟩ := h
    try dsimp only [cxOf, Cx.nox, Cx.wish]
    change (_ : L2.TS) _ [some (.ref p), none, none, none] _
    refine w_start ?_
    have hxl := paired_len hx
    repeat' (tm_at "rs")
    rename_i z H1 nz sz gz
    refine loopEn (xs := xs) (fun i σ' H' => ∃ (v : V) (x2 x3 : Option V), σ' = [some (.ref p), some v, x2, x3] ∧ Sm H H' ∧ TmAt K H' (sumT (ts.take i)) v) ⟨_, _, _, rfl, sz, tm_num gz⟩ ?_ ?_ ?_
    · rintro i σ' H' hi ⟨v, x2, x3, rfl, hs, hv⟩
      exact sq_of (hs _ _ hp)
    · rintro i x T σ' H1 H2 hi hxi ⟨v, x2, x3, rfl, hs, hv⟩ nT sT gT
      obtain ⟨t, hti, ht⟩ := paired_get hx hxi
      have ht2 := ht.sm (hs.trans sT)
      have hv2 := hv.sm sT
      have htk : ts.take (i + 1) = ts.take i ++ [t] := by rw [List.take_succ, hti]; rfl
      repeat' (tm_at "rs")
      · first
        | (rename_i q H3 nq sq gq L H4 nL sL gL hL e
           have e : i = 0 := by omega
           subst e
           refine ⟨_, _, _, rfl, hs.trans (sT.trans (sq.trans sL)), ?_⟩
           rw [htk]
           exact ht2.sm (sq.trans sL))
        | (rename_i q H3 nq sq gq L H4 nL sL gL e
           have e : i = 0 := by omega
           subst e
           refine ⟨_, _, _, rfl, hs.trans (sT.trans (sq.trans sL)), ?_⟩
           rw [htk]
           exact ht2.sm (sq.trans sL))
      · first
        | (rename_i q H3 nq sq gq L H4 nL sL gL hL e
           refine ⟨_, _, _, rfl, hs.trans (sT.trans (sq.trans sL)), ?_⟩
           rw [htk, sumT_add (by
             intro z
             have h1 := congrArg List.length z
             have h2 := (List.getElem?_eq_some_iff.mp hti).1
             rw [List.length_take] at h1
             have h3 : ([] : List Tm).length = 0 := rfl
             omega)]
           first | exact (tm_op gq (hv2.sm sq) (ht2.sm sq)).sm sL | exact TmAt.sm gq sL)
        | (rename_i q H3 nq sq gq L H4 nL sL gL e
           refine ⟨_, _, _, rfl, hs.trans (sT.trans (sq.trans sL)), ?_⟩
           rw [htk, sumT_add (by
             intro z
             have h1 := congrArg List.length z
             have h2 := (List.getElem?_eq_some_iff.mp hti).1
             rw [List.length_take] at h1
             have h3 : ([] : List Tm).length = 0 := rfl
             omega)]
           first | exact (tm_op gq (hv2.sm sq) (ht2.sm sq)).sm sL | exact TmAt.sm gq sL)
    · rintro σ' H' ⟨v, x2, x3, rfl, hs, hv⟩
      rw [hxl, List.take_length] at hv
      repeat' (tm_at "rs")
      exact k _ _ hs hv
/-! ### made_one -/
theorem ok_f_made_one {f : Addr} {fd : FuncData} (F : Fun K "made_one" "made_one" s_f_made_one f fd) {a_TWO : Addr} {C_Saying : Addr}
    (D_f_need_same : Def P w K mg base CX0 "need_same" 1 ["sayings"] (sp_f_need_same K))
    (G_Saying : DefM P w K mg base CX0 "Saying" 1 ["self", "word", "left", "right"] (sp_f_Saying__init K) C_Saying)
    (SC_Saying : ClsN K "Saying" C_Saying ["word", "left", "right"])
    (D_f_sum_of : Def P w K mg base CX0 "sum_of" 1 ["terms"] (sp_f_sum_of K))
    (c_TWO : mg "TWO" = some (.ref a_TWO))
    (d_TWO : ∀ H : Hp, SqT K H a_TWO [V.str "num", V.int 2]) :
    FnG P w K mg base CX0 3 f fd ["sayings"] (sp_f_made_one K) := by
  refine okG F sc_f_made_one (fun vs H Q E h => ?_) (fun cdv A outer s H vs Q E hr h => ⟨_, (pss_cons (ps_expr (pe_f D_f_need_same (hr.mono (by omega)) (by rfl) pass0 (pa_cons (pv 0) pa_nil)))
    (pss_cons (ps_set (i := 1) sc_f_made_one.nd rfl (by first | exact Or.inl rfl | exact Or.inr rfl) (pe_lst pa_nil))
    (pss_cons (ps_set (i := 2) sc_f_made_one.nd rfl (by first | exact Or.inl rfl | exact Or.inr rfl) (pe_lst pa_nil))
    (pss_cons (ps_for PassesOwn.never rfl (pi_or (pi_gl (K := K) rfl (pv 0)) (pi_gt (K := K) rfl (pv 0))) (pg_name (i := 3) sc_f_made_one.nd rfl (by first | exact Or.inl rfl | exact Or.inr rfl)) (pss_cons (ps_par (i := 4) (j := 5) rfl sc_f_made_one.nd rfl rfl (by decide) rfl rfl (pa_cons (pe_fld (pv 3) rfl) (pa_cons (pe_fld (pv 3) rfl) pa_nil)) (by rfl))
    (pss_cons (ps_expr (pe_gbm (K := K) rfl PySem.F.plainAttrs_list PySem.F.slot_list_append PySem.F.type_list_append mt_append (pv 1) (pa_cons (pe_tup (pa_cons pe_str (pa_cons (pe_tup (pa_cons pe_str (pa_cons (pv 4) (pa_cons (pv 4) pa_nil)))) (pa_cons (pe_tup (pa_cons pe_str (pa_cons (pv 5) (pa_cons (pv 5) pa_nil)))) pa_nil)))) pa_nil)))
    (pss_one (ps_expr (pe_gbm (K := K) rfl PySem.F.plainAttrs_list PySem.F.slot_list_append PySem.F.type_list_append mt_append (pv 2) (pa_cons (pe_tup (pa_cons pe_str (pa_cons (pe_glob (v := .ref a_TWO) rfl c_TWO rfl) (pa_cons (pe_tup (pa_cons pe_str (pa_cons (pv 4) (pa_cons (pv 5) pa_nil)))) pa_nil)))) pa_nil)))))))
    (pss_one (ps_ret (pe_mk G_Saying (hr.mono (by omega)) (by rfl) pass0 (pa_cons pe_str (pa_cons (pe_f D_f_sum_of (hr.mono (by omega)) (by rfl) pass0 (pa_cons (pv 1) pa_nil)) (pa_cons (pe_f D_f_sum_of (hr.mono (by omega)) (by rfl) pass0 (pa_cons (pv 2) pa_nil)) pa_nil)))))))))), ?_⟩)
  · obtain ⟨_, _, _, rfl, _⟩ := h
    rfl
  · obtain ⟨p, xs, abs, rfl, hp, hx, hl, k⟩ := h
    try dsimp only [cxOf, Cx.nox, Cx.wish]
    change (_ : L2.TS) _ [some (.ref p), none, none, none, none, none] _
    refine w_start ?_
    have hxl := paired_len hx
    repeat' (tm_at "rs")
    refine call_needSame hp (fun x hxm => ?_) (fun H1 s1 => ?_)
    · obtain ⟨i, hi⟩ := List.getElem?_of_mem hxm
      obtain ⟨ab, _, l, r, h, _⟩ := paired_get hx hi
      exact ⟨l, r, h⟩
    repeat' (tm_at "rs")
    rename_i S H2 nS sS gS R H3 nR sR gR
    have sb : Sm H H3 := s1.trans (sS.trans sR)
    have neSR : S ≠ R := ne_of_none gS nR
    have hx3 : Paired (SayT K H3) xs abs := paired_mono (fun _ _ q => q.sm sb) hx
    rcases hp with hp | hp
    · refine .inl ?_
      repeat' (tm_at "rs")
      refine loopL (xs := xs) (fun i σ' H' => ∃ (x3 x4 x5 : Option V) (us ws : List V), σ' = [some (.ref p), some (.ref S), some (.ref R), x3, x4, x5] ∧ Sm H H' ∧ H' S = some (.lst us) ∧ H' R = some (.lst ws) ∧ TmsAt K H' us ((abs.take i).map sqT) ∧ TmsAt K H' ws ((abs.take i).map prT)) ⟨_, _, _, _, _, rfl, sb, sR _ _ gS, gR, .nil, .nil⟩ ?_ ?_ ?_
      · rintro i σ' H' hi ⟨x3, x4, x5, us, ws, rfl, hs, hS, hR, hU, hW⟩
        exact sq_of (hs _ _ hp)
      · rintro i x σ' H' hxi ⟨x3, x4, x5, us, ws, rfl, hs, hS, hR, hU, hW⟩
        obtain ⟨ab, hab, hsay0⟩ := paired_get hx hxi
        obtain ⟨l, r, hsay, ta, tb⟩ := hsay0.sm hs
        have htk : abs.take (i + 1) = abs.take i ++ [ab] := by rw [List.take_succ, hab]; rfl
        have hi := (List.getElem?_eq_some_iff.mp hxi).1
        have hul : us.length ≤ 1000 := by
          have := paired_len hU
          rw [List.length_map, List.length_take] at this
          omega
        have hwl : ws.length ≤ 1000 := by
          have := paired_len hW
          rw [List.length_map, List.length_take] at this
          omega
        repeat' (tm_at "rs")
        rename_i A HA nA sA gA B HB nB sB gB C HC nC sC gC HD kD gD F HF nF sF gF G HG nG sG gG HI kI gI
        have tA : TmAt K HA (.op "times" ab.1 ab.1) (.ref A) := tm_op gA (ta.sm sA) (ta.sm sA)
        have tB : TmAt K HB (.op "times" ab.2 ab.2) (.ref B) := tm_op gB (tb.sm (sA.trans sB)) (tb.sm (sA.trans sB))
        have tC : TmAt K HC (sqT ab) (.ref C) := tm_op gC (tA.sm (sB.trans sC)) (tB.sm sC)
        have sC' : Sm H' HC := sA.trans (sB.trans sC)
        have hSC := sC' _ _ hS
        have taD := (ta.sm sC').kpL hSC kD
        have tbD := (tb.sm sC').kpL hSC kD
        have uD := ((hU.sm sC').add tC).kpL hSC kD
        have wD := (hW.sm sC').kpL hSC kD
        have hRD := kD _ _ (fun z => neSR z.symm) (sC' _ _ hR)
        have tF : TmAt K HF (.op "times" ab.1 ab.2) (.ref F) := tm_op gF (taD.sm sF) (tbD.sm sF)
        have tG : TmAt K HG (prT ab) (.ref G) := tm_op gG ⟨_, rfl, .inr fun H => d_TWO H⟩ (tF.sm sG)
        have sG' : Sm HD HG := sF.trans sG
        have hRG := sG' _ _ hRD
        have uI := (uD.sm sG').kpL hRG kI
        have wI := ((wD.sm sG').add tG).kpL hRG kI
        have nS0 : H S = none := by
          cases q : H S with
          | none => rfl
          | some o => have := s1 _ _ q; rw [nS] at this; cases this
        have nR0 : H R = none := by
          cases q : H R with
          | none => rfl
          | some o => have := (s1.trans sS) _ _ q; rw [nR] at this; cases this
        have sD : Sm H HD := fun a o q => kD _ _ (ne_of_none q nS0) ((hs.trans sC') _ _ q)
        have sI : Sm H HI := fun a o q => kI _ _ (ne_of_none q nR0) ((sD.trans sG') _ _ q)
        refine ⟨_, _, _, _, _, rfl, sI, kI _ _ neSR (sG' _ _ gD), gI, ?_, ?_⟩
        · rw [htk, List.map_append]
          exact uI
        · rw [htk, List.map_append]
          exact wI
      · rintro σ' H' ⟨x3, x4, x5, us, ws, rfl, hs, hS, hR, hU, hW⟩
        rw [hxl, List.take_length] at hU hW
        repeat' (tm_at "rs")
        refine call_sumOf hS hU (fun l H4 s4 tl => ?_)
        repeat' (tm_at "rs")
        refine call_sumOf (s4 _ _ hR) (hW.sm s4) (fun r H5 s5 tr => ?_)
        repeat' (tm_at "rs")
        refine mk_say SC_Saying (.inl rfl) (fun z H6 n6 s6 hsay => ?_)
        exact k _ _ (hs.trans (s4.trans (s5.trans s6))) ⟨l, r, hsay, tl.sm (s5.trans s6), tr.sm s6⟩
    · refine .inr ?_
      repeat' (tm_at "rs")
      refine loopT (xs := xs) (fun i σ' H' => ∃ (x3 x4 x5 : Option V) (us ws : List V), σ' = [some (.ref p), some (.ref S), some (.ref R), x3, x4, x5] ∧ Sm H H' ∧ H' S = some (.lst us) ∧ H' R = some (.lst ws) ∧ TmsAt K H' us ((abs.take i).map sqT) ∧ TmsAt K H' ws ((abs.take i).map prT)) ⟨_, _, _, _, _, rfl, sb, sR _ _ gS, gR, .nil, .nil⟩ ?_ ?_ ?_
      · rintro i σ' H' hi ⟨x3, x4, x5, us, ws, rfl, hs, hS, hR, hU, hW⟩
        exact st_of (hs _ _ hp)
      · rintro i x σ' H' hxi ⟨x3, x4, x5, us, ws, rfl, hs, hS, hR, hU, hW⟩
        obtain ⟨ab, hab, hsay0⟩ := paired_get hx hxi
        obtain ⟨l, r, hsay, ta, tb⟩ := hsay0.sm hs
        have htk : abs.take (i + 1) = abs.take i ++ [ab] := by rw [List.take_succ, hab]; rfl
        have hi := (List.getElem?_eq_some_iff.mp hxi).1
        have hul : us.length ≤ 1000 := by
          have := paired_len hU
          rw [List.length_map, List.length_take] at this
          omega
        have hwl : ws.length ≤ 1000 := by
          have := paired_len hW
          rw [List.length_map, List.length_take] at this
          omega
        repeat' (tm_at "rs")
        rename_i A HA nA sA gA B HB nB sB gB C HC nC sC gC HD kD gD F HF nF sF gF G HG nG sG gG HI kI gI
        have tA : TmAt K HA (.op "times" ab.1 ab.1) (.ref A) := tm_op gA (ta.sm sA) (ta.sm sA)
        have tB : TmAt K HB (.op "times" ab.2 ab.2) (.ref B) := tm_op gB (tb.sm (sA.trans sB)) (tb.sm (sA.trans sB))
        have tC : TmAt K HC (sqT ab) (.ref C) := tm_op gC (tA.sm (sB.trans sC)) (tB.sm sC)
        have sC' : Sm H' HC := sA.trans (sB.trans sC)
        have hSC := sC' _ _ hS
        have taD := (ta.sm sC').kpL hSC kD
        have tbD := (tb.sm sC').kpL hSC kD
        have uD := ((hU.sm sC').add tC).kpL hSC kD
        have wD := (hW.sm sC').kpL hSC kD
        have hRD := kD _ _ (fun z => neSR z.symm) (sC' _ _ hR)
        have tF : TmAt K HF (.op "times" ab.1 ab.2) (.ref F) := tm_op gF (taD.sm sF) (tbD.sm sF)
        have tG : TmAt K HG (prT ab) (.ref G) := tm_op gG ⟨_, rfl, .inr fun H => d_TWO H⟩ (tF.sm sG)
        have sG' : Sm HD HG := sF.trans sG
        have hRG := sG' _ _ hRD
        have uI := (uD.sm sG').kpL hRG kI
        have wI := ((wD.sm sG').add tG).kpL hRG kI
        have nS0 : H S = none := by
          cases q : H S with
          | none => rfl
          | some o => have := s1 _ _ q; rw [nS] at this; cases this
        have nR0 : H R = none := by
          cases q : H R with
          | none => rfl
          | some o => have := (s1.trans sS) _ _ q; rw [nR] at this; cases this
        have sD : Sm H HD := fun a o q => kD _ _ (ne_of_none q nS0) ((hs.trans sC') _ _ q)
        have sI : Sm H HI := fun a o q => kI _ _ (ne_of_none q nR0) ((sD.trans sG') _ _ q)
        refine ⟨_, _, _, _, _, rfl, sI, kI _ _ neSR (sG' _ _ gD), gI, ?_, ?_⟩
        · rw [htk, List.map_append]
          exact uI
        · rw [htk, List.map_append]
          exact wI
      · rintro σ' H' ⟨x3, x4, x5, us, ws, rfl, hs, hS, hR, hU, hW⟩
        rw [hxl, List.take_length] at hU hW
        repeat' (tm_at "rs")
        refine call_sumOf hS hU (fun l H4 s4 tl => ?_)
        repeat' (tm_at "rs")
        refine call_sumOf (s4 _ _ hR) (hW.sm s4) (fun r H5 s5 tr => ?_)
        repeat' (tm_at "rs")
        refine mk_say SC_Saying (.inl rfl) (fun z H6 n6 s6 hsay => ?_)
        exact k _ _ (hs.trans (s4.trans (s5.trans s6))) ⟨l, r, hsay, tl.sm (s5.trans s6), tr.sm s6⟩
/-! ### figure -/
theorem ok_f_figure {f : Addr} {fd : FuncData} (F : Fun K "figure" "figure" s_f_figure f fd)
    (m_range : mg "range" = none) :
    FnG P w K mg base CX0 1 f fd ["number", "base", "k"] (sp_f_figure K) := by
  refine okG F sc_f_figure (fun vs H Q E h => ?_) (fun cdv A outer s H vs Q E hr h => ⟨_, (pss_cons (ps_for PassesOwn.never rfl (pi_range1 (by rfl) m_range (pa_cons (pv 2) pa_nil)) (pg_name (i := 3) sc_f_figure.nd rfl (by first | exact Or.inl rfl | exact Or.inr rfl)) (pss_one (ps_aug (i := 0) sc_f_figure.nd rfl (by first | exact Or.inl rfl | exact Or.inr rfl) (pv 1) ip_gDiv)))
    (pss_one (ps_ret (pe_op op_gMod (pv 0) (pv 1))))), ?_⟩)
  · obtain ⟨_, _, _, rfl, _⟩ := h
    rfl
  · obtain ⟨n, b, i, rfl, hb, h0, h1, k⟩ := h
    try dsimp only [cxOf, Cx.nox, Cx.wish]
    change (_ : L2.TS) _ [some (.int n), some (.int b), some (.int i), none] _
    refine w_start ?_
    obtain ⟨hb0, hb1⟩ := hb
    repeat' (tm_at "rs")
    refine loopR (fun m σ' H' => ∃ x3, σ' = [some (.int (dvs n b m)), some (.int b), some (.int i), x3] ∧ H' = H) ⟨_, rfl, rfl⟩ ?_ ?_
    · rintro m σ' H' hm ⟨x3, rfl, rfl⟩
      repeat' (tm_at "rs")
      exact ⟨_, rfl, rfl⟩
    · rintro σ' H' ⟨x3, rfl, rfl⟩
      repeat' (tm_at "rs")
      first | exact k | (rename_i z hz h1 h2 h3; rw [hz]; exact k)
/-! ### of_figures -/
theorem ok_f_of_figures {f : Addr} {fd : FuncData} (F : Fun K "of_figures" "of_figures" s_f_of_figures f fd)
    (m_reversed : mg "reversed" = none) :
    FnG P w K mg base CX0 1 f fd ["some", "base"] (sp_f_of_figures K) := by
  refine okG F sc_f_of_figures (fun vs H Q E h => ?_) (fun cdv A outer s H vs Q E hr h => ⟨_, (pss_cons (ps_set (i := 2) sc_f_of_figures.nd rfl (by first | exact Or.inl rfl | exact Or.inr rfl) pe_int)
    (pss_cons (ps_for PassesOwn.never rfl (_root_.RT.pi_revA (by rfl) m_reversed (pv 0)) (pg_name (i := 3) sc_f_of_figures.nd rfl (by first | exact Or.inl rfl | exact Or.inr rfl)) (pss_one (ps_set (i := 2) sc_f_of_figures.nd rfl (by first | exact Or.inl rfl | exact Or.inr rfl) (pe_op (op_gAdd (K := K) rfl) (pe_op op_gMul (pv 2) (pv 1)) (pv 3)))))
    (pss_one (ps_ret (pv 2))))), ?_⟩)
  · obtain ⟨_, _, _, rfl, _⟩ := h
    rfl
  · obtain ⟨a, ns, b, rfl, hS, hl, hn, b0, b1, k⟩ := h
    try dsimp only [cxOf, Cx.nox, Cx.wish]
    change (_ : L2.TS) _ [some (.ref a), some (.int b), none, none] _
    refine w_start ?_
    have hb : b.natAbs < 2 ^ 41 := by
      have : (2 : Int) ^ 40 = 1099511627776 := by decide
      have : (2 : Nat) ^ 41 = 2199023255552 := by decide
      omega
    have hlm : (ns.map V.int).length = ns.length := List.length_map _
    repeat' (tm_at "rs")
    rcases hS with hS | hS
    · refine ⟨a, _, rfl, .inl ⟨hS, ?_⟩⟩
      refine loopVL (xs := ns.map V.int) (fun i σ' H' => ∃ x, σ' = [some (.ref a), some (.int b), some (.int (hrn b (ns.drop (ns.length - i)))), x] ∧ H' = H) ?_ ?_ ?_ ?_
      · exact ⟨_, by rw [Nat.sub_zero, List.drop_length]; rfl, rfl⟩
      · rintro i σ' H' hi ⟨x, rfl, rfl⟩
        exact hS
      · rintro i x σ' H' hi hx ⟨y, rfl, rfl⟩
        obtain ⟨m, hm, rfl⟩ := ints_at hx
        rw [hlm] at hm hi
        have hc : CM (hrn b (ns.drop (ns.length - i))) b := .inr (mulx_ok (a := 2000 + 42 * 400) (b := 41) (Nat.lt_of_lt_of_le (hrn_bd hb _ (fun n h => hn n (List.mem_of_mem_drop h))) (Nat.pow_le_pow_right (by decide) (by rw [List.length_drop]; omega))) hb (by omega))
        repeat' (tm_at "rs")
        rw [← hrn_drop hi hm]
        exact ⟨_, rfl, rfl⟩
      · rintro σ' H' ⟨x, rfl, rfl⟩
        rw [hlm, Nat.sub_self, List.drop_zero]
        repeat' (tm_at "rs")
        exact k
    · refine ⟨a, _, rfl, .inr ⟨hS, ?_⟩⟩
      refine loopVT (xs := ns.map V.int) (fun i σ' H' => ∃ x, σ' = [some (.ref a), some (.int b), some (.int (hrn b (ns.drop (ns.length - i)))), x] ∧ H' = H) ?_ ?_ ?_ ?_
      · exact ⟨_, by rw [Nat.sub_zero, List.drop_length]; rfl, rfl⟩
      · rintro i σ' H' hi ⟨x, rfl, rfl⟩
        exact hS
      · rintro i x σ' H' hi hx ⟨y, rfl, rfl⟩
        obtain ⟨m, hm, rfl⟩ := ints_at hx
        rw [hlm] at hm hi
        have hc : CM (hrn b (ns.drop (ns.length - i))) b := .inr (mulx_ok (a := 2000 + 42 * 400) (b := 41) (Nat.lt_of_lt_of_le (hrn_bd hb _ (fun n h => hn n (List.mem_of_mem_drop h))) (Nat.pow_le_pow_right (by decide) (by rw [List.length_drop]; omega))) hb (by omega))
        repeat' (tm_at "rs")
        rw [← hrn_drop hi hm]
        exact ⟨_, rfl, rfl⟩
      · rintro σ' H' ⟨x, rfl, rfl⟩
        rw [hlm, Nat.sub_self, List.drop_zero]
        repeat' (tm_at "rs")
        exact k
/-! ### ones -/
theorem ok_f_ones {f : Addr} {fd : FuncData} (F : Fun K "ones" "ones" s_f_ones f fd)
    (D_f_of_figures : Def P w K mg base CX0 "of_figures" 1 ["some", "base"] (sp_f_of_figures K)) :
    FnG P w K mg base CX0 2 f fd ["base", "many"] (sp_f_ones K) := by
  refine okG F sc_f_ones (fun vs H Q E h => ?_) (fun cdv A outer s H vs Q E hr h => ⟨_, (pss_one (ps_ret (pe_f D_f_of_figures (hr.mono (by omega)) (by rfl) pass0 (pa_cons (pe_op op_gMul (pe_lst (pa_cons pe_int pa_nil)) (pv 1)) (pa_cons (pv 0) pa_nil))))), ?_⟩)
  · obtain ⟨_, _, rfl, _⟩ := h
    rfl
  · obtain ⟨b, j, rfl, b0, b1, j0, j1, k⟩ := h
    try dsimp only [cxOf, Cx.nox, Cx.wish]
    change (_ : L2.TS) _ [some (.int b), some (.int j)] _
    refine w_start ?_
    have h1 : (List.replicate j.toNat (1 : Int)).length ≤ 400 := by rw [List.length_replicate]; omega
    have h2 : ∀ n ∈ List.replicate j.toNat (1 : Int), n.natAbs < 2 ^ 2000 := fun n h => by
      rw [List.eq_of_mem_replicate h]
      exact Nat.one_lt_two_pow (by decide)
    repeat' (tm_at "rs")
    exact k _ (by tm_at "rsm")
/-! ### figures -/
theorem ok_f_figures {f : Addr} {fd : FuncData} (F : Fun K "figures" "figures" s_f_figures f fd)
    (m_range : mg "range" = none) :
    FnG P w K mg base CX0 1 f fd ["number", "base", "many"] (sp_f_figures K) := by
  refine okG F sc_f_figures (fun vs H Q E h => ?_) (fun cdv A outer s H vs Q E hr h => ⟨_, (pss_cons (ps_set (i := 3) sc_f_figures.nd rfl (by first | exact Or.inl rfl | exact Or.inr rfl) (pe_lst pa_nil))
    (pss_cons (ps_for PassesOwn.never rfl (pi_range1 (by rfl) m_range (pa_cons (pv 2) pa_nil)) (pg_name (i := 4) sc_f_figures.nd rfl (by first | exact Or.inl rfl | exact Or.inr rfl)) (pss_cons (ps_expr (pe_gbm (K := K) rfl PySem.F.plainAttrs_list PySem.F.slot_list_append PySem.F.type_list_append mt_append (pv 3) (pa_cons (pe_op op_gMod (pv 0) (pv 1)) pa_nil)))
    (pss_one (ps_aug (i := 0) sc_f_figures.nd rfl (by first | exact Or.inl rfl | exact Or.inr rfl) (pv 1) ip_gDiv))))
    (pss_one (ps_ret (pv 3))))), ?_⟩)
  · obtain ⟨_, _, _, rfl, _⟩ := h
    rfl
  · obtain ⟨x, w, j, rfl, hw, j0, j1, k⟩ := h
    try dsimp only [cxOf, Cx.nox, Cx.wish]
    change (_ : L2.TS) _ [some (.int x), some (.int w), some (.int j), none, none] _
    refine w_start ?_
    have hw0 := hw.1
    have hd : ∀ y : Int, CDivW y w := fun _ => hw
    repeat' (tm_at "rs")
    rename_i D H1 nD sD gD
    refine loopR (fun i σ' H' => ∃ x4, σ' = [some (.int (dvs x w i)), some (.int w), some (.int j), some (.ref D), x4] ∧ H' D = some (.lst ((fgs w x i).map V.int)) ∧ Sm H H') ?_ ?_ ?_
    · exact ⟨_, rfl, gD, sD⟩
    · rintro i σ' H' hi ⟨x4, rfl, hD, hs⟩
      have hz : ((fgs w x i).map V.int).length ≤ 1000 := by rw [List.length_map, fgs_len]; omega
      have hdi := hd (dvs x w i)
      repeat' (tm_at "rs")
      rename_i z hz1 hz2 hz3 hz4 H2 kp2 g2
      refine ⟨_, rfl, ?_, by tm_at "rsm"⟩
      rw [g2, fgs_succ, List.map_append, hz1]
      rfl
    · rintro σ' H' ⟨x4, rfl, hD, hs⟩
      repeat' (tm_at "rs")
      exact k _ _ nD hs hD
/-! ### _law_figures_right -/
theorem ok_f_law_figures_right {f : Addr} {fd : FuncData} (F : Fun K "_law_figures_right" "_law_figures_right" s_f_law_figures_right f fd)
    (D_f_of_figures : Def P w K mg base CX0 "of_figures" 1 ["some", "base"] (sp_f_of_figures K))
    (DK_f_figure_k_base_number : DefK P w K mg base CX0 "figure" 1 ["number", "base", "k"] ["k", "base", "number"] gk_f_figure_k_base_number (sp_f_figure K))
    (DK_f_figure_base_k_number : DefK P w K mg base CX0 "figure" 1 ["number", "base", "k"] ["base", "k", "number"] gk_f_figure_base_k_number (sp_f_figure K))
    (DK_f_of_figures_base_some : DefK P w K mg base CX0 "of_figures" 1 ["some", "base"] ["base", "some"] gk_f_of_figures_base_some (sp_f_of_figures K))
    (DK_f_ones_many_base : DefK P w K mg base CX0 "ones" 2 ["base", "many"] ["many", "base"] gk_f_ones_many_base (sp_f_ones K))
    (DK_f_figures_many_base_number : DefK P w K mg base CX0 "figures" 1 ["number", "base", "many"] ["many", "base", "number"] gk_f_figures_many_base_number (sp_f_figures K)) :
    FnG P w K mg base CX0 3 f fd ["whole", "wide", "count"] (sp_f_law_figures_right K) := by
  refine okG F sc_f_law_figures_right (fun vs H Q E h => ?_) (fun cdv A outer s H vs Q E hr h => ⟨_, (pss_cons (ps_set (i := 3) sc_f_law_figures_right.nd rfl (by first | exact Or.inl rfl | exact Or.inr rfl) (pe_lst (pa_cons (pe_op op_gMod (pv 0) (pv 1)) (pa_cons (pe_op op_gMod (pe_op op_gDiv (pv 0) (pv 1)) (pv 1)) pa_nil))))
    (pss_cons (ps_set (i := 4) sc_f_law_figures_right.nd rfl (by first | exact Or.inl rfl | exact Or.inr rfl) (pe_lst (pa_cons (pe_fK0 DK_f_figure_k_base_number (hr.mono (by omega)) (by rfl) pass0 (pk_cons pe_int (pk_cons (pv 1) (pk_cons (pv 0) pk_nil)))) (pa_cons (pe_fK0 DK_f_figure_base_k_number (hr.mono (by omega)) (by rfl) pass0 (pk_cons (pv 1) (pk_cons pe_int (pk_cons (pv 0) pk_nil)))) pa_nil))))
    (pss_cons (ps_if (PW.pt (pw_or (pt_cmpR (op_gNe (K := K) rfl hr.units) (pv 4) (pv 3) (nomark _)) (pw_or1 (pt_cmpR (op_gNe (K := K) rfl hr.units) (pe_fK0 DK_f_figures_many_base_number (hr.mono (by omega)) (by rfl) pass0 (pk_cons pe_int (pk_cons (pv 1) (pk_cons (pv 0) pk_nil)))) (pv 3) (nomark _))))) (pss_one (ps_ret pe_bl)) pss_nil)
    (pss_cons (ps_if (pt_cmpR (op_gNe (K := K) rfl hr.units) (pe_fK0 DK_f_of_figures_base_some (hr.mono (by omega)) (by rfl) pass0 (pk_cons (pv 1) (pk_cons (pv 3) pk_nil))) (pe_op (op_gAdd (K := K) rfl) (pe_ix (ix_g (K := K) rfl) (pv 3) pe_int (fun _ _ => rfl)) (pe_op op_gMul (pv 1) (pe_ix (ix_g (K := K) rfl) (pv 3) pe_int (fun _ _ => rfl)))) (nomark _)) (pss_one (ps_ret pe_bl)) pss_nil)
    (pss_one (ps_ret (pe_cmpR (op_gEq (K := K) rfl hr.units) (pe_fK0 DK_f_ones_many_base (hr.mono (by omega)) (by rfl) pass0 (pk_cons (pv 2) (pk_cons (pv 1) pk_nil))) (pe_f D_f_of_figures (hr.mono (by omega)) (by rfl) pass0 (pa_cons (pe_op op_gMul (pe_lst (pa_cons pe_int pa_nil)) (pv 2)) (pa_cons (pv 1) pa_nil))) (nomark _)))))))), ?_⟩)
  · obtain ⟨_, _, _, rfl, _⟩ := h
    rfl
  · obtain ⟨x, w, j, rfl, x0, w0, w1, j0, j1, x1, k⟩ := h
    try dsimp only [cxOf, Cx.nox, Cx.wish]
    change (_ : L2.TS) _ [some (.int x), some (.int w), some (.int j), none, none] _
    refine w_start ?_
    have hw : Wd w := wd_of (by omega) (by omega)
    have p40 : (2 : Int) ^ 40 = 1099511627776 := by decide
    repeat' (tm_at "rs")
    rename_i a ea a0 a1 a2 b eb b0 b1 b2 D H1 n1 s1 g1 T H2 n2 s2 g2
    subst ea eb
    have g1' : H2 D = some (.lst (([x % w, x / w % w] : List Int).map V.int)) := s2 _ _ g1
    have g2' : H2 T = some (.lst (([x % w, x / w % w] : List Int).map V.int)) := g2
    refine w_neInts (sq_of g2') (sq_of g1') ?_
    repeat' (tm_at "rs")
    rename_i F H3 n3 s3 g3
    have g3' : H3 F = some (.lst (([x % w, x / w % w] : List Int).map V.int)) := g3
    have g13 : H3 D = some (.lst (([x % w, x / w % w] : List Int).map V.int)) := s3 _ _ g1'
    refine w_neInts (sq_of g3') (sq_of g13) ?_
    have e1 : 0 ≤ x % w := a0
    have e2 : 0 ≤ x / w % w := b0
    have m20 : (1000 : Nat) < 2 ^ 2000 := Nat.lt_of_lt_of_le (show 1000 < 2 ^ 10 by decide) (Nat.pow_le_pow_right (by decide) (by decide))
    have hsm : ∀ n ∈ [x % w, x / w % w], n.natAbs < 2 ^ 2000 := fun n hn => by
      simp only [List.mem_cons, List.not_mem_nil, or_false] at hn
      have : n.natAbs < 1000 := by rcases hn with rfl | rfl <;> omega
      omega
    have hlen2 : [x % w, x / w % w].length ≤ 400 := by
      show 2 ≤ 400
      decide
    have b40 : w ≤ 2 ^ 40 := by omega
    have j300 : j ≤ 300 := by omega
    have hq := sq_of (K := K) g13
    have g13v : H3 D = some (.lst [V.int (x % w), V.int (x / w % w)]) := g13
    have p10 : (2 : Nat) ^ 10 = 1024 := by decide
    have cm : CM w (x / w % w) := .inr (mulx_ok (a := 10) (b := 10) (by omega) (by omega) (by decide))
    have hh : hrn w [x % w, x / w % w] = x % w + w * (x / w % w) := by
      show (0 * w + x / w % w) * w + x % w = _
      rw [Int.zero_mul, Int.zero_add, Int.mul_comm w]
      omega
    have hrl : (List.replicate j.toNat (1 : Int)).length ≤ 400 := by rw [List.length_replicate]; omega
    have hrs : ∀ n ∈ List.replicate j.toNat (1 : Int), n.natAbs < 2 ^ 2000 := fun n hn => by
      rw [(List.mem_replicate.mp hn).2]
      exact Nat.lt_of_lt_of_le (show (1 : Int).natAbs < 2 ^ 1 by decide) (Nat.pow_le_pow_right (by decide) (by decide))
    repeat' (tm_at "rs")
    · rename_i q; exact absurd hh q
    · rename_i q H4 s4 L H5 n5 s5 g5 M H6 n6 s6 g6
      refine cast ?_ (k H6 (s1.trans (s2.trans (s3.trans (s4.trans (s5.trans s6))))))
      congr 2
      symm
      exact decide_eq_true rfl
/-! ### bits_of -/
theorem ok_f_bits_of {f : Addr} {fd : FuncData} (F : Fun K "bits_of" "bits_of" s_f_bits_of f fd)
    (m_str : mg "str" = none) :
    FnG P w K mg base CX0 1 f fd ["number"] (sp_f_bits_of K) := by
  refine okG F sc_f_bits_of (fun vs H Q E h => ?_) (fun cdv A outer s H vs Q E hr h => ⟨_, (pss_cons (ps_set (i := 1) sc_f_bits_of.nd rfl (by first | exact Or.inl rfl | exact Or.inr rfl) (pe_lst pa_nil))
    (pss_cons (ps_while PassesOwn.never (pt_cmpR op_gGt (pv 0) pe_int (nomark _)) (pss_cons (ps_expr (pe_gbm (K := K) rfl PySem.F.plainAttrs_list PySem.F.slot_list_append PySem.F.type_list_append mt_append (pv 1) (pa_cons (pe_callTy call_gStrB (by rfl) m_str PyProof.Rows.boot_str (pa_cons (pe_op op_gAnd (pv 0) pe_int) pa_nil)) pa_nil)))
    (pss_one (ps_aug (i := 0) sc_f_bits_of.nd rfl (by first | exact Or.inl rfl | exact Or.inr rfl) pe_int ip_gShr))))
    (pss_cons (ps_if (pt_cmpR (op_gEq (K := K) rfl hr.units) (pv 1) (pe_lst pa_nil) (nomark _)) (pss_one (ps_ret pe_str)) pss_nil)
    (pss_one (ps_ret (pe_join pe_str (pe_revL (pv 1)))))))), ?_⟩)
  · obtain ⟨_, rfl, _⟩ := h
    rfl
  · obtain ⟨n, rfl, hn, k⟩ := h
    try dsimp only [cxOf, Cx.nox, Cx.wish]
    change (_ : L2.TS) _ [some (.int (n : Int)), none] _
    refine w_start ?_
    have hbl := bl_len 2700 n hn
    repeat' (tm_at "rs")
    rename_i D H1 nD sD gD
    refine w_while (fun m σ' H' => ∃ (m' : Nat) (cs : List Nat), σ' = [some (.int (m' : Int)), some (.ref D)] ∧ H' D = some (.lst ((cs.map sg).map V.str)) ∧ bl n = bl m' ++ cs.reverse ∧ Sm H H' ∧ m = m') n ⟨n, [], rfl, gD, by rw [List.reverse_nil, List.append_nil], sD, rfl⟩ ?_
    rintro m σ' H' ⟨m', cs, rfl, hD, hb, hs, rfl⟩
    have hcl : cs.length ≤ 2700 := by
      have := congrArg List.length hb
      rw [List.length_append, List.length_reverse] at this
      omega
    have hz : ((cs.map sg).map V.str).length ≤ 2700 := by rw [List.length_map, List.length_map]; exact hcl
    repeat' (tm_at "rs")
    · rename_i h0 z hz1 hz2 hz3 hz4
      have hzm : z = ((m % 2 : Nat) : Int) := by
        rw [hz1, and_one (by omega)]
        rfl
      refine w_strB (by omega) ?_
      repeat' (tm_at "rs")
      rename_i H2 kp2 g2
      have hd2 : (m : Int) / 2 = ((m / 2 : Nat) : Int) := rfl
      refine ⟨m / 2, by omega, m / 2, cs ++ [48 + m % 2], by rw [← hd2]; rfl, ?_, ?_, by tm_at "rsm", rfl⟩
      · rw [g2, List.map_append, List.map_append, hzm]
        rfl
      · rw [hb, bl_eq (n := m) (by omega), List.reverse_append, List.append_assoc]
        rfl
    · rename_i h0 e H2 ne se ge
      have hm : m = 0 := by omega
      subst hm
      rw [bl_zero, List.nil_append] at hb
      have hbit : ∀ c ∈ cs, c < 1000 := fun c hc => by
        have := bl_bit n c (by rw [hb]; exact List.mem_reverse.mpr hc)
        rcases this with rfl | rfl <;> decide
      have hD2 := se _ _ hD
      refine w_eqNilT (sq_of hD2) (sq_of ge) (sg_ok hbit) ?_
      repeat' (tm_at "rs")
      · rename_i hh
        refine k _ _ ?_ (by tm_at "rsm")
        have hcs : cs = [] := List.map_eq_nil_iff.mp hh
        rw [hcs] at hb
        have hn0 : n = 0 := by
          rcases Nat.eq_zero_or_pos n with h | h
          · exact h
          · exact absurd hb (bl_ne h)
        rw [hn0, btl_zero]
        rfl
      · rename_i hh r H3 nr sr gr
        have hcs : cs ≠ [] := fun e => hh (by rw [e]; rfl)
        have hn0 : 0 < n := by
          rcases Nat.eq_zero_or_pos n with h | h
          · rw [h, bl_zero] at hb
            exact absurd (List.reverse_eq_nil_iff.mp hb.symm) hcs
          · exact h
        rw [← List.map_reverse, ← List.map_reverse] at gr
        refine w_joinE (sq_of gr) (fun y hy => ?_) (by rw [List.length_map, List.length_reverse]; omega) ?_
        · obtain ⟨c, hc, rfl⟩ := List.mem_map.mp hy
          rfl
        · repeat' (tm_at "rs")
          refine k _ _ ?_ (by tm_at "rsm")
          rw [join_sg, btl_pos hn0, hb]
/-! ### fits -/
theorem ok_f_fits {f : Addr} {fd : FuncData} (F : Fun K "fits" "fits" s_f_fits f fd) :
    FnG P w K mg base CX0 1 f fd ["one", "other"] (sp_f_fits K) := by
  refine okG F sc_f_fits (fun vs H Q E h => ?_) (fun cdv A outer s H vs Q E hr h => ⟨_, (pss_one (ps_ret (pe_cmpR (op_gEq (K := K) rfl hr.units) (pe_op op_gAnd (pv 0) (pv 1)) (pv 0) (nomark _)))), ?_⟩)
  · obtain ⟨_, _, rfl, _⟩ := h
    rfl
  · obtain ⟨x, y, rfl, k⟩ := h
    try dsimp only [cxOf, Cx.nox, Cx.wish]
    change (_ : L2.TS) _ [some (.int x), some (.int y)] _
    refine w_start ?_
    repeat' (tm_at "rs")
    exact k
/-! ### stands_out -/
theorem ok_f_stands_out {f : Addr} {fd : FuncData} (F : Fun K "stands_out" "stands_out" s_f_stands_out f fd) :
    FnG P w K mg base CX0 1 f fd ["one", "other"] (sp_f_stands_out K) := by
  refine okG F sc_f_stands_out (fun vs H Q E h => ?_) (fun cdv A outer s H vs Q E hr h => ⟨_, (pss_cons (ps_aug (i := 0) sc_f_stands_out.nd rfl (by first | exact Or.inl rfl | exact Or.inr rfl) (pe_op op_gAnd (pv 0) (pv 1)) ip_gXor)
    (pss_one (ps_ret (pv 0)))), ?_⟩)
  · obtain ⟨_, _, rfl, _⟩ := h
    rfl
  · obtain ⟨x, y, rfl, x0, y0, k⟩ := h
    try dsimp only [cxOf, Cx.nox, Cx.wish]
    change (_ : L2.TS) _ [some (.int x), some (.int y)] _
    refine w_start ?_
    have e := xor_and x0 y0
    repeat' (tm_at "rs")
    rename_i z hz hz1 hz2 hz3
    rw [hz, e]
    exact k
/-! ### of_bits -/
theorem ok_f_of_bits {f : Addr} {fd : FuncData} (F : Fun K "of_bits" "of_bits" s_f_of_bits f fd)
    (m_enumerate : mg "enumerate" = none)
    (m_int : mg "int" = none)
    (z_nd : NoDig K) :
    FnG P w K mg base CX0 1 f fd ["text"] (sp_f_of_bits K) := by
  refine okG F sc_f_of_bits (fun vs H Q E h => ?_) (fun cdv A outer s H vs Q E hr h => ⟨_, (pss_cons (ps_for PassesOwn.never rfl (pi_SE (by rfl) m_enumerate (pa_cons (pv 0) pa_nil)) (pg_gt (K := K) (n := 2) rfl rfl (pgs_cons (pg_name (i := 1) sc_f_of_bits.nd rfl (by first | exact Or.inl rfl | exact Or.inr rfl)) (pgs_cons (pg_name (i := 2) sc_f_of_bits.nd rfl (by first | exact Or.inl rfl | exact Or.inr rfl)) pgs_nil))) (pss_one (ps_if (pt_cmpR op_gNotInS (pv 2) pe_str (by rfl)) (pss_one ps_never) pss_nil)))
    (pss_cons (ps_if (pt_cmpR (op_gEq (K := K) rfl hr.units) (pv 0) pe_str (nomark _)) (pss_one ps_never) pss_nil)
    (pss_one (ps_ret (pe_callTy (call_intText2 z_nd) (by rfl) m_int PyProof.Rows.boot_int (pa_cons (pv 0) (pa_cons pe_int pa_nil))))))), ?_⟩)
  · obtain ⟨_, rfl, _⟩ := h
    rfl
  · obtain ⟨z, rfl, hne, hb, k⟩ := h
    try dsimp only [cxOf, Cx.nox, Cx.wish]
    change (_ : L2.TS) _ [some (.str z), none, none] _
    refine w_start ?_
    repeat' (tm_at "rs")
    refine loopSE (fun i σ' H' => ∃ x1 x2, σ' = [some (.str z), x1, x2] ∧ Sm H H') ⟨_, _, rfl, Same.refl _⟩ ?_ ?_
    · rintro i c T σ' H1 H2 hi hc ⟨x1, x2, rfl, hs⟩ nT sT gT
      have hbc := hb c (List.mem_of_getElem? hc)
      repeat' (tm_at "rs")
      · rename_i hh
        refine hh ?_
        rcases hbc with rfl | rfl <;> decide
      · exact ⟨_, _, rfl, by tm_at "rsm"⟩
    · rintro σ' H1 ⟨x1, x2, rfl, hs⟩
      repeat' (tm_at "rs")
      · rename_i hh
        rw [hh] at hne
        exact hne rfl
      · refine w_intText2 hne hb ?_
        repeat' (tm_at "rs")
        exact k _ hs
/-! ### how_many -/
theorem ok_f_how_many {f : Addr} {fd : FuncData} (F : Fun K "how_many" "how_many" s_f_how_many f fd) :
    FnG P w K mg base CX0 1 f fd ["number"] (sp_f_how_many K) := by
  refine okG F sc_f_how_many (fun vs H Q E h => ?_) (fun cdv A outer s H vs Q E hr h => ⟨_, (pss_cons (ps_set (i := 1) sc_f_how_many.nd rfl (by first | exact Or.inl rfl | exact Or.inr rfl) pe_int)
    (pss_cons (ps_while PassesOwn.never (pt_cmpR op_gGt (pv 0) pe_int (nomark _)) (pss_cons (ps_aug (i := 0) sc_f_how_many.nd rfl (by first | exact Or.inl rfl | exact Or.inr rfl) (pe_op op_sub (pv 0) pe_int) ip_gAnd)
    (pss_one (ps_aug (i := 1) sc_f_how_many.nd rfl (by first | exact Or.inl rfl | exact Or.inr rfl) pe_int ip_gAdd))))
    (pss_one (ps_ret (pv 1))))), ?_⟩)
  · obtain ⟨_, rfl, _⟩ := h
    rfl
  · obtain ⟨x, rfl, x0, k⟩ := h
    try dsimp only [cxOf, Cx.nox, Cx.wish]
    change (_ : L2.TS) _ [some (.int x), none] _
    refine w_start ?_
    repeat' (tm_at "rs")
    refine w_while (fun m σ' H' => ∃ (a f : Int), σ' = [some (.int a), some (.int f)] ∧ H' = H ∧ 0 ≤ a ∧ f + (pc a.toNat : Nat) = (pc x.toNat : Nat) ∧ m = a.toNat) x.toNat ⟨x, 0, rfl, rfl, x0, by omega, rfl⟩ ?_
    rintro m σ' H' ⟨a, f, rfl, rfl, ha, hf, rfl⟩
    repeat' (tm_at "rs")
    · rename_i h0 z hz hz1 hz2 hz3
      obtain ⟨n, rfl⟩ := Int.eq_ofNat_of_zero_le ha
      have e := pc_and n (by omega)
      have ez : z = ((n &&& (n - 1) : Nat) : Int) := by
        rw [hz, show (n : Int) - 1 = ((n - 1 : Nat) : Int) by omega, and_nat]
      rw [Int.toNat_natCast] at hf
      refine ⟨z.toNat, by omega, z, f + 1, rfl, rfl, by omega, ?_, rfl⟩
      rw [ez, Int.toNat_natCast]
      omega
    · have h1 : pc a.toNat = 0 := by rw [show a.toNat = 0 by omega, pc]
      rw [h1] at hf
      rw [show f = (pc x.toNat : Nat) by omega]
      exact k
/-! ### _law_bits_right -/
theorem ok_f_law_bits_right {f : Addr} {fd : FuncData} (F : Fun K "_law_bits_right" "_law_bits_right" s_f_law_bits_right f fd)
    (D_f_bits_of : Def P w K mg base CX0 "bits_of" 1 ["number"] (sp_f_bits_of K))
    (DK_f_bits_of_number : DefK P w K mg base CX0 "bits_of" 1 ["number"] ["number"] gk_f_bits_of_number (sp_f_bits_of K))
    (DK_f_fits_other_one : DefK P w K mg base CX0 "fits" 1 ["one", "other"] ["other", "one"] gk_f_fits_other_one (sp_f_fits K))
    (DK_f_stands_out_other_one : DefK P w K mg base CX0 "stands_out" 1 ["one", "other"] ["other", "one"] gk_f_stands_out_other_one (sp_f_stands_out K))
    (DK_f_of_bits_text : DefK P w K mg base CX0 "of_bits" 1 ["text"] ["text"] gk_f_of_bits_text (sp_f_of_bits K))
    (DK_f_how_many_number : DefK P w K mg base CX0 "how_many" 1 ["number"] ["number"] gk_f_how_many_number (sp_f_how_many K)) :
    FnG P w K mg base CX0 2 f fd ["first", "second"] (sp_f_law_bits_right K) := by
  refine okG F sc_f_law_bits_right (fun vs H Q E h => ?_) (fun cdv A outer s H vs Q E hr h => ⟨_, (pss_cons (ps_set (i := 2) sc_f_law_bits_right.nd rfl (by first | exact Or.inl rfl | exact Or.inr rfl) (pe_fK0 DK_f_bits_of_number (hr.mono (by omega)) (by rfl) pass0 (pk_cons (pv 0) pk_nil)))
    (pss_cons (ps_if (PW.pt (pw_or (pt_cmpR (op_gNe (K := K) rfl hr.units) (pv 2) (pe_f D_f_bits_of (hr.mono (by omega)) (by rfl) pass0 (pa_cons (pv 0) pa_nil)) (nomark _)) (pw_or (pt_cmpR (op_gNe (K := K) rfl hr.units) (pe_fK0 DK_f_of_bits_text (hr.mono (by omega)) (by rfl) pass0 (pk_cons (pv 2) pk_nil)) (pv 0) (nomark _)) (pw_or1 (pt_cmpR (op_gNe (K := K) rfl hr.units) (pe_fK0 DK_f_how_many_number (hr.mono (by omega)) (by rfl) pass0 (pk_cons (pv 0) pk_nil)) (pe_m1 PySem.F.slot_str_count PySem.F.type_str_count mt_count (pv 2) pe_str) (nomark _)))))) (pss_one (ps_ret pe_bl)) pss_nil)
    (pss_cons (ps_if (pt_cmpR (op_gNe (K := K) rfl hr.units) (pe_fK0 DK_f_fits_other_one (hr.mono (by omega)) (by rfl) pass0 (pk_cons (pv 1) (pk_cons (pv 0) pk_nil))) (pe_cmpR (op_gEq (K := K) rfl hr.units) (pe_op op_gAnd (pv 0) (pv 1)) (pv 0) (nomark _)) (nomark _)) (pss_one (ps_ret pe_bl)) pss_nil)
    (pss_one (ps_ret (pe_cmpR (op_gEq (K := K) rfl hr.units) (pe_fK0 DK_f_stands_out_other_one (hr.mono (by omega)) (by rfl) pass0 (pk_cons (pv 1) (pk_cons (pv 0) pk_nil))) (pe_op op_sub (pv 0) (pe_op op_gAnd (pv 0) (pv 1))) (nomark _))))))), ?_⟩)
  · obtain ⟨_, _, rfl, _⟩ := h
    rfl
  · obtain ⟨n, m, rfl, n1, m1, k⟩ := h
    try dsimp only [cxOf, Cx.nox, Cx.wish]
    change (_ : L2.TS) _ [some (.int (n : Int)), some (.int (m : Int)), none] _
    refine w_start ?_
    have hb : n < 2 ^ 2700 := Nat.lt_of_le_of_lt n1 (Nat.lt_of_lt_of_le (show 1000 < 2 ^ 10 by decide) (Nat.pow_le_pow_right (by decide) (by decide)))
    repeat' (tm_at "rs")
    refine call_bits_of hb (fun z H1 hz s1 => ?_)
    repeat' (tm_at "rs")
    refine call_bits_of hb (fun z2 H2 hz2 s2 => ?_)
    obtain rfl : z2 = z := str_ext (hz2.trans hz.symm)
    repeat' (tm_at "rs")
    · rename_i hh; exact absurd rfl hh
    have hq := num2_btl n
    rw [← hz] at hq
    refine call_of_bits (by rw [hz]; exact btl_ne n) (by rw [hz]; exact btl_bit n) (fun H3 s3 => ?_)
    rw [hq]
    repeat' (tm_at "rs")
    · rename_i hh; exact absurd rfl hh
    have hct : Txt.count z2 (Str.ofString "1") = ((pc n : Nat) : Int) := by rw [count_one, hz, cnt_btl]
    · rename_i hh; exact absurd (by rw [hct]; rfl) hh
    · rename_i a ea b1 b2 b3 hh; exact absurd (by rw [ea]) hh
    · rename_i a ea b1 b2 b3 hh b eb c1 c2 c3
      refine cast ?_ (k _ (s1.trans (s2.trans s3)))
      congr 2
      symm
      rw [eb]
      exact decide_eq_true rfl
/-! ### choose -/
theorem ok_f_choose {f : Addr} {fd : FuncData} (F : Fun K "choose" "choose" s_f_choose f fd)
    (m_range : mg "range" = none) :
    FnG P w K mg base CX0 1 f fd ["n", "k"] (sp_f_choose K) := by
  refine okG F sc_f_choose (fun vs H Q E h => ?_) (fun cdv A outer s H vs Q E hr h => ⟨_, (pss_cons (ps_if (pt_cmpR op_gGt (pv 1) (pv 0) (nomark _)) (pss_one (ps_ret pe_int)) pss_nil)
    (pss_cons (ps_set (i := 2) sc_f_choose.nd rfl (by first | exact Or.inl rfl | exact Or.inr rfl) pe_int)
    (pss_cons (ps_for PassesOwn.never rfl (pi_range2 (by rfl) m_range (pa_cons pe_int (pa_cons (pe_op (op_gAdd (K := K) rfl) (pv 1) pe_int) pa_nil))) (pg_name (i := 3) sc_f_choose.nd rfl (by first | exact Or.inl rfl | exact Or.inr rfl)) (pss_one (ps_set (i := 2) sc_f_choose.nd rfl (by first | exact Or.inl rfl | exact Or.inr rfl) (pe_op op_gDiv (pe_op op_gMul (pv 2) (pe_op (op_gAdd (K := K) rfl) (pe_op op_sub (pv 0) (pv 1)) (pv 3))) (pv 3)))))
    (pss_one (ps_ret (pv 2)))))), ?_⟩)
  · obtain ⟨_, _, rfl, _⟩ := h
    rfl
  · obtain ⟨n, j, rfl, n0, n1, j0, k⟩ := h
    try dsimp only [cxOf, Cx.nox, Cx.wish]
    change (_ : L2.TS) _ [some (.int n), some (.int j), none, none] _
    refine w_start ?_
    repeat' (tm_at "rs")
    · rename_i h
      have e := ch_gt n.toNat j.toNat (by omega)
      rw [e] at k
      exact k
    · rename_i h
      refine loopR (fun m σ' H' => ∃ x3, σ' = [some (.int n), some (.int j), some (.int (ch ((n - j).toNat + m) m : Nat)), x3] ∧ H' = H) ⟨_, by rw [ch_zero]; rfl, rfl⟩ ?_ ?_
      · rintro m σ' H' hm ⟨x3, rfl, rfl⟩
        have hd : CDivW ((ch ((n - j).toNat + m) m : Nat) * (n - j + (1 + (m : Int)))) (1 + (m : Int)) := wd_of (w := 1 + (m : Int)) (by omega) (by omega)
        have e : ((ch ((n - j).toNat + m) m : Nat) : Int) * (n - j + (1 + (m : Int))) / (1 + (m : Int)) = (ch ((n - j).toNat + (m + 1)) (m + 1) : Nat) := by
          have h1 := ch_mul ((n - j).toNat + m) m
          rw [show n - j + (1 + (m : Int)) = (((n - j).toNat + m + 1 : Nat) : Int) by omega, show 1 + (m : Int) = ((m + 1 : Nat) : Int) by omega, ← Int.natCast_mul, ← Int.natCast_ediv, Nat.mul_comm, ← h1, Nat.mul_div_cancel_left _ (by omega)]
          rfl
        repeat' (tm_at "rs")
        rw [e]
        exact ⟨_, rfl, rfl⟩
      · rintro σ' H' ⟨x3, rfl, rfl⟩
        repeat' (tm_at "rs")
        have e : (n - j).toNat + (j + 1 - 1).toNat = n.toNat := by omega
        have e2 : (j + 1 - 1).toNat = j.toNat := by omega
        rw [e, e2]
        exact k
/-! ### halvings -/
theorem ok_f_halvings {f : Addr} {fd : FuncData} (F : Fun K "halvings" "halvings" s_f_halvings f fd) :
    FnG P w K mg base CX0 1 f fd ["number"] (sp_f_halvings K) := by
  refine okG F sc_f_halvings (fun vs H Q E h => ?_) (fun cdv A outer s H vs Q E hr h => ⟨_, (pss_cons (ps_set (i := 1) sc_f_halvings.nd rfl (by first | exact Or.inl rfl | exact Or.inr rfl) pe_int)
    (pss_cons (ps_while PassesOwn.never (pt_cmpR (op_gEq (K := K) rfl hr.units) (pe_op op_gAnd (pv 0) pe_int) pe_int (nomark _)) (pss_cons (ps_aug (i := 0) sc_f_halvings.nd rfl (by first | exact Or.inl rfl | exact Or.inr rfl) pe_int ip_gShr)
    (pss_one (ps_aug (i := 1) sc_f_halvings.nd rfl (by first | exact Or.inl rfl | exact Or.inr rfl) pe_int ip_gAdd))))
    (pss_one (ps_ret (pv 1))))), ?_⟩)
  · obtain ⟨_, rfl, _⟩ := h
    rfl
  · obtain ⟨n, rfl, h0, k⟩ := h
    try dsimp only [cxOf, Cx.nox, Cx.wish]
    change (_ : L2.TS) _ [some (.int n), none] _
    refine w_start ?_
    repeat' (tm_at "rs")
    refine w_while (fun m σ' H' => ∃ (x : Int) (c : Nat), σ' = [some (.int x), some (.int (c : Int))] ∧ H' = H ∧ 0 < x ∧ c + v2 x.toNat = v2 n.toNat ∧ m = x.toNat) n.toNat ⟨n, 0, rfl, rfl, h0, by omega, rfl⟩ ?_
    rintro m σ' H' ⟨x, c, rfl, rfl, hx, hc, rfl⟩
    have e := and_one (Int.le_of_lt hx)
    have ev : (x.toNat) % 2 = 0 → v2 x.toNat = v2 (x.toNat / 2) + 1 := v2_even (by omega)
    have e2 : (x / 2).toNat = x.toNat / 2 := by omega
    have e3 : (x.toNat) % 2 = 1 → v2 x.toNat = 0 := v2_odd
    repeat' (tm_at "rs")
    · rw [← e2] at ev
      exact ⟨(x / 2).toNat, by omega, x / 2, c + 1, rfl, rfl, by omega, by omega, rfl⟩
    · have z : c = v2 n.toNat := by omega
      rw [z]
      exact k
/-! ### carries -/
theorem ok_f_carries {f : Addr} {fd : FuncData} (F : Fun K "carries" "carries" s_f_carries f fd) :
    FnG P w K mg base CX0 1 f fd ["one", "other"] (sp_f_carries K) := by
  refine okG F sc_f_carries (fun vs H Q E h => ?_) (fun cdv A outer s H vs Q E hr h => ⟨_, (pss_cons (ps_set (i := 2) sc_f_carries.nd rfl (by first | exact Or.inl rfl | exact Or.inr rfl) pe_int)
    (pss_cons (ps_set (i := 3) sc_f_carries.nd rfl (by first | exact Or.inl rfl | exact Or.inr rfl) pe_int)
    (pss_cons (ps_while PassesOwn.never (PW.pt (pw_or (pt_cmpR op_gGt (pv 0) pe_int (nomark _)) (pw_or1 (pt_cmpR op_gGt (pv 1) pe_int (nomark _))))) (pss_cons (ps_set (i := 3) sc_f_carries.nd rfl (by first | exact Or.inl rfl | exact Or.inr rfl) (pe_op op_gShr (pe_op (op_gAdd (K := K) rfl) (pe_op (op_gAdd (K := K) rfl) (pe_op op_gAnd (pv 0) pe_int) (pe_op op_gAnd (pv 1) pe_int)) (pv 3)) pe_int))
    (pss_cons (ps_aug (i := 2) sc_f_carries.nd rfl (by first | exact Or.inl rfl | exact Or.inr rfl) (pv 3) ip_gAdd)
    (pss_cons (ps_aug (i := 0) sc_f_carries.nd rfl (by first | exact Or.inl rfl | exact Or.inr rfl) pe_int ip_gShr)
    (pss_one (ps_aug (i := 1) sc_f_carries.nd rfl (by first | exact Or.inl rfl | exact Or.inr rfl) pe_int ip_gShr))))))
    (pss_one (ps_ret (pv 2)))))), ?_⟩)
  · obtain ⟨_, _, rfl, _⟩ := h
    rfl
  · obtain ⟨x, y, rfl, x0, y0, k⟩ := h
    try dsimp only [cxOf, Cx.nox, Cx.wish]
    change (_ : L2.TS) _ [some (.int x), some (.int y), none, none] _
    refine w_start ?_
    repeat' (tm_at "rs")
    refine w_while (fun m σ' H' => ∃ (a b f c : Int), σ' = [some (.int a), some (.int b), some (.int f), some (.int c)] ∧ H' = H ∧ 0 ≤ a ∧ 0 ≤ b ∧ 0 ≤ c ∧ c ≤ 1 ∧ f + (cr a.toNat b.toNat c.toNat : Nat) = (cr x.toNat y.toNat 0 : Nat) ∧ m = a.toNat + b.toNat) (x.toNat + y.toNat) ⟨x, y, 0, 0, rfl, rfl, x0, y0, by omega, by omega, by rw [Int.zero_add]; rfl, rfl⟩ ?_
    rintro m σ' H' ⟨a, b, f, c, rfl, rfl, ha, hb, hc, hc1, hf, rfl⟩
    have ea := and_one ha
    have eb := and_one hb
    have st : ¬ (a.toNat = 0 ∧ b.toNat = 0) → _ := fun h => cr_step (a := a.toNat) (b := b.toNat) c.toNat h
    repeat' (tm_at "rs")
    all_goals first
      | (have z : f = (cr x.toNat y.toNat 0 : Nat) := by
           have h0 : cr a.toNat b.toNat c.toNat = 0 := by
             rw [show a.toNat = 0 by omega, show b.toNat = 0 by omega]
             exact cr_zero _
           omega
         rw [z]
         exact k)
      | (have st := st (by omega)
         rename_i z1 hz1 hz2 hz3 hz4 z2 hz5 hz6 hz7 hz8
         have e1 : (a.toNat % 2 + b.toNat % 2 + c.toNat) / 2 = ((z1 + z2 + c) / 2).toNat := by omega
         rw [e1, show a.toNat / 2 = (a / 2).toNat by omega, show b.toNat / 2 = (b / 2).toNat by omega] at st
         exact ⟨(a / 2).toNat + (b / 2).toNat, by omega, a / 2, b / 2, f + (z1 + z2 + c) / 2, (z1 + z2 + c) / 2, rfl, rfl, by omega, by omega, by omega, by omega, by omega, rfl⟩)
/-! ### is_odd -/
theorem ok_f_is_odd {f : Addr} {fd : FuncData} (F : Fun K "is_odd" "is_odd" s_f_is_odd f fd)
    (D_f_fits : Def P w K mg base CX0 "fits" 1 ["one", "other"] (sp_f_fits K)) :
    FnG P w K mg base CX0 2 f fd ["n", "k"] (sp_f_is_odd K) := by
  refine okG F sc_f_is_odd (fun vs H Q E h => ?_) (fun cdv A outer s H vs Q E hr h => ⟨_, (pss_one (ps_ret (pe_f D_f_fits (hr.mono (by omega)) (by rfl) pass0 (pa_cons (pv 1) (pa_cons (pv 0) pa_nil))))), ?_⟩)
  · obtain ⟨_, _, rfl, _⟩ := h
    rfl
  · obtain ⟨n, j, rfl, k⟩ := h
    try dsimp only [cxOf, Cx.nox, Cx.wish]
    change (_ : L2.TS) _ [some (.int n), some (.int j)] _
    refine w_start ?_
    repeat' (tm_at "rs")
    exact k
/-! ### risen -/
theorem ok_f_risen {f : Addr} {fd : FuncData} (F : Fun K "risen" "risen" s_f_risen f fd) :
    FnG P w K mg base CX0 1 f fd ["base", "times"] (sp_f_risen K) := by
  refine okG F sc_f_risen (fun vs H Q E h => ?_) (fun cdv A outer s H vs Q E hr h => ⟨_, (pss_cons (ps_set (i := 2) sc_f_risen.nd rfl (by first | exact Or.inl rfl | exact Or.inr rfl) pe_int)
    (pss_cons (ps_while PassesOwn.never (pt_cmpR op_gGt (pv 1) pe_int (nomark _)) (pss_cons (ps_if (pt_cmpR (op_gEq (K := K) rfl hr.units) (pe_op op_gAnd (pv 1) pe_int) pe_int (nomark _)) (pss_one (ps_aug (i := 2) sc_f_risen.nd rfl (by first | exact Or.inl rfl | exact Or.inr rfl) (pv 0) ip_gMul)) pss_nil)
    (pss_cons (ps_aug (i := 0) sc_f_risen.nd rfl (by first | exact Or.inl rfl | exact Or.inr rfl) (pv 0) ip_gMul)
    (pss_one (ps_aug (i := 1) sc_f_risen.nd rfl (by first | exact Or.inl rfl | exact Or.inr rfl) pe_int ip_gShr)))))
    (pss_one (ps_ret (pv 2))))), ?_⟩)
  · obtain ⟨_, _, rfl, _⟩ := h
    rfl
  · obtain ⟨b, t, rfl, b1, hB, k⟩ := h
    try dsimp only [cxOf, Cx.nox, Cx.wish]
    change (_ : L2.TS) _ [some (.int (b : Int)), some (.int (t : Int)), none] _
    refine w_start ?_
    obtain ⟨B, hB0, hB1⟩ := hB
    repeat' (tm_at "rs")
    refine w_while (fun m σ' H' => ∃ (x y f : Nat), σ' = [some (.int (x : Int)), some (.int (y : Int)), some (.int (f : Int))] ∧ H' = H ∧ 1 ≤ x ∧ 1 ≤ f ∧ f * x ^ y = b ^ t ∧ m = y) t ⟨b, t, 1, rfl, rfl, b1, by decide, by rw [Nat.one_mul], rfl⟩ ?_
    rintro y σ' H' ⟨x, _, f, rfl, rfl, hx, hf, he, rfl⟩
    have ea := and_one (i := (y : Int)) (Int.natCast_nonneg _)
    have hxp : 0 < x ^ y := Nat.pow_pos hx
    have hfb : f < 2 ^ B := Nat.lt_of_le_of_lt (by rw [← he]; exact Nat.le_mul_of_pos_right _ hxp) hB1
    have hxb : 0 < y → x < 2 ^ B := fun hy => Nat.lt_of_le_of_lt (by
      rw [← he]
      have h1 : x ^ 1 ≤ x ^ y := Nat.pow_le_pow_right hx hy
      rw [Nat.pow_one] at h1
      exact Nat.le_trans h1 (Nat.le_mul_of_pos_left _ hf)) hB1
    have hc1 : 0 < y → CM (f : Int) (x : Int) := fun hy => .inr (mulx_ok (a := B) (b := B) (by rw [Int.natAbs_natCast]; exact hfb) (by rw [Int.natAbs_natCast]; exact hxb hy) (by omega))
    have hc2 : 0 < y → CM (x : Int) (x : Int) := fun hy => .inr (mulx_ok (a := B) (b := B) (by rw [Int.natAbs_natCast]; exact hxb hy) (by rw [Int.natAbs_natCast]; exact hxb hy) (by omega))
    have hsq : ∀ z, (x * x) ^ z = x ^ (2 * z) := fun z => by rw [Nat.pow_mul, Nat.pow_two]
    repeat' (tm_at "rs")
    · rename_i hy z hz hz0 hz1 hz2 hz3
      have hc1 := hc1 (by omega)
      have hc2 := hc2 (by omega)
      repeat' (tm_at "rs")
      refine ⟨y / 2, by omega, x * x, y / 2, f * x, rfl, rfl, Nat.mul_pos hx hx, Nat.mul_pos hf hx, ?_, rfl⟩
      rw [hsq, ← he, Nat.mul_assoc, Nat.mul_comm x, ← Nat.pow_succ, show (2 * (y / 2)).succ = y by omega]
    · rename_i hy z hz hz0 hz1 hz2 hz3
      have hc2 := hc2 (by omega)
      repeat' (tm_at "rs")
      refine ⟨y / 2, by omega, x * x, y / 2, f, rfl, rfl, Nat.mul_pos hx hx, hf, ?_, rfl⟩
      rw [hsq, ← he, show 2 * (y / 2) = y by omega]
    · rename_i hy
      have h0 : y = 0 := by omega
      subst h0
      rw [Nat.pow_zero, Nat.mul_one] at he
      rw [← he] at k
      exact k
/-! ### figure_of_power -/
theorem ok_f_figure_of_power {f : Addr} {fd : FuncData} (F : Fun K "figure_of_power" "figure_of_power" s_f_figure_of_power f fd)
    (D_f_risen : Def P w K mg base CX0 "risen" 1 ["base", "times"] (sp_f_risen K)) :
    FnG P w K mg base CX0 2 f fd ["n", "k"] (sp_f_figure_of_power K) := by
  refine okG F sc_f_figure_of_power (fun vs H Q E h => ?_) (fun cdv A outer s H vs Q E hr h => ⟨_, (pss_cons (ps_set (i := 2) sc_f_figure_of_power.nd rfl (by first | exact Or.inl rfl | exact Or.inr rfl) (pe_op (op_gAdd (K := K) rfl) (pv 0) pe_int))
    (pss_cons (ps_set (i := 3) sc_f_figure_of_power.nd rfl (by first | exact Or.inl rfl | exact Or.inr rfl) (pe_f D_f_risen (hr.mono (by omega)) (by rfl) pass0 (pa_cons (pe_op (op_gAdd (K := K) rfl) (pe_op op_gShl pe_int (pv 2)) pe_int) (pa_cons (pv 0) pa_nil))))
    (pss_one (ps_ret (pe_op op_gAnd (pe_op op_gShr (pv 3) (pe_op op_gMul (pv 2) (pv 1))) (pe_op op_sub (pe_op op_gShl pe_int (pv 2)) pe_int)))))), ?_⟩)
  · obtain ⟨_, _, rfl, _⟩ := h
    rfl
  · obtain ⟨n, j, rfl, n0, n1, j0, j1, k⟩ := h
    try dsimp only [cxOf, Cx.nox, Cx.wish]
    change (_ : L2.TS) _ [some (.int n), some (.int j), none, none] _
    refine w_start ?_
    obtain ⟨p, rfl⟩ := Int.eq_ofNat_of_zero_le n0
    obtain ⟨q, rfl⟩ := Int.eq_ofNat_of_zero_le j0
    rw [Int.toNat_natCast, Int.toNat_natCast] at k
    repeat' (tm_at "rs")
    rename_i z hz hz1 hz2 hz3 hz4
    have ez : z = ((2 ^ (p + 1) : Nat) : Int) := by
      rw [hz, Int.natCast_pow, show ((p : Int) + 1).toNat = p + 1 by omega]; rfl
    have ez1 : z + 1 = ((2 ^ (p + 1) + 1 : Nat) : Int) := by rw [ez]; rfl
    rw [ez1]
    refine call_risen (by omega) ⟨1003000, by omega, size57 (by omega)⟩ ?_
    repeat' (tm_at "rs")
    have h0 : (0 : Int) ≤ ((p : Int) + 1) * (q : Int) := Int.mul_nonneg (by omega) (by omega)
    refine w_shrI h0 ?_
    repeat' (tm_at "rs")
    have e2 : (((p : Int) + 1) * (q : Int)).toNat = (p + 1) * q := by
      rw [show ((p : Int) + 1) * (q : Int) = (((p + 1) * q : Nat) : Int) by rw [Int.natCast_mul]; rfl, Int.toNat_natCast]
    rename_i w hw1 hw2 hw3 hw4 hw5
    have ew : w = ((2 ^ (p + 1) : Nat) : Int) := by
      rw [hw1, Int.natCast_pow, show ((p : Int) + 1).toNat = p + 1 by omega]; rfl
    rw [e2, ew, fig57]
    exact k
/-! ### _law_choosing_right -/
theorem ok_f_law_choosing_right {f : Addr} {fd : FuncData} (F : Fun K "_law_choosing_right" "_law_choosing_right" s_f_law_choosing_right f fd)
    (D_f_choose : Def P w K mg base CX0 "choose" 1 ["n", "k"] (sp_f_choose K))
    (DK_f_choose_k_n : DefK P w K mg base CX0 "choose" 1 ["n", "k"] ["k", "n"] gk_f_choose_k_n (sp_f_choose K))
    (DK_f_halvings_number : DefK P w K mg base CX0 "halvings" 1 ["number"] ["number"] gk_f_halvings_number (sp_f_halvings K))
    (DK_f_carries_other_one : DefK P w K mg base CX0 "carries" 1 ["one", "other"] ["other", "one"] gk_f_carries_other_one (sp_f_carries K))
    (DK_f_is_odd_k_n : DefK P w K mg base CX0 "is_odd" 2 ["n", "k"] ["k", "n"] gk_f_is_odd_k_n (sp_f_is_odd K))
    (DK_f_figure_of_power_k_n : DefK P w K mg base CX0 "figure_of_power" 2 ["n", "k"] ["k", "n"] gk_f_figure_of_power_k_n (sp_f_figure_of_power K)) :
    FnG P w K mg base CX0 3 f fd ["first", "second"] (sp_f_law_choosing_right K) := by
  refine okG F sc_f_law_choosing_right (fun vs H Q E h => ?_) (fun cdv A outer s H vs Q E hr h => ⟨_, (pss_cons (ps_set (i := 2) sc_f_law_choosing_right.nd rfl (by first | exact Or.inl rfl | exact Or.inr rfl) (pe_fK0 DK_f_choose_k_n (hr.mono (by omega)) (by rfl) pass0 (pk_cons (pv 0) (pk_cons (pe_op (op_gAdd (K := K) rfl) (pv 0) (pv 1)) pk_nil))))
    (pss_cons (ps_if (PW.pt (pw_or (pt_cmpR (op_gNe (K := K) rfl hr.units) (pv 2) (pe_f D_f_choose (hr.mono (by omega)) (by rfl) pass0 (pa_cons (pe_op (op_gAdd (K := K) rfl) (pv 0) (pv 1)) (pa_cons (pv 0) pa_nil))) (nomark _)) (pw_or1 (pt_cmpR (op_gNe (K := K) rfl hr.units) (pe_fK0 DK_f_figure_of_power_k_n (hr.mono (by omega)) (by rfl) pass0 (pk_cons (pv 0) (pk_cons (pe_op (op_gAdd (K := K) rfl) (pv 0) (pv 1)) pk_nil))) (pv 2) (nomark _))))) (pss_one (ps_ret pe_bl)) pss_nil)
    (pss_cons (ps_if (pt_cmpR (op_gNe (K := K) rfl hr.units) (pe_fK0 DK_f_halvings_number (hr.mono (by omega)) (by rfl) pass0 (pk_cons (pv 2) pk_nil)) (pe_fK0 DK_f_carries_other_one (hr.mono (by omega)) (by rfl) pass0 (pk_cons (pv 1) (pk_cons (pv 0) pk_nil))) (nomark _)) (pss_one (ps_ret pe_bl)) pss_nil)
    (pss_one (ps_ret (pe_cmpR (op_gEq (K := K) rfl hr.units) (pe_fK0 DK_f_is_odd_k_n (hr.mono (by omega)) (by rfl) pass0 (pk_cons (pv 0) (pk_cons (pe_op (op_gAdd (K := K) rfl) (pv 0) (pv 1)) pk_nil))) (pe_cmpR (op_gEq (K := K) rfl hr.units) (pe_op op_gMod (pv 2) pe_int) pe_int (nomark _)) (nomark _))))))), ?_⟩)
  · obtain ⟨_, _, rfl, _⟩ := h
    rfl
  · obtain ⟨n, m, rfl, n1, m1, k⟩ := h
    try dsimp only [cxOf, Cx.nox, Cx.wish]
    change (_ : L2.TS) _ [some (.int (n : Int)), some (.int (m : Int)), none] _
    refine w_start ?_
    obtain ⟨c1, c2, c3, c4, c5, c6⟩ := w58 (n := (n : Int)) (j := (m : Int)) (by omega) (by omega)
    repeat' (tm_at "rs")
    all_goals first | (exfalso; omega) | skip
    refine cast ?_ (k H (Same.refl _))
    congr 2
    symm
    rw [decide_eq_true_eq]
    refine decide_eq_decide.mpr ?_
    have e : ((n : Int) + m) = ((n + m : Nat) : Int) := rfl
    have l := lucas (n + m) n
    rw [e, and_nat, Int.toNat_natCast, Int.toNat_natCast]
    omega
/-! ### led -/
theorem ok_f_led {m : Nat} {f : Addr} {fd : FuncData} (F : Fun K "led" "led" s_f_led f fd)
    (D_f_led : Def P w K mg base CX0 "led" (0 + m) ["term", "names"] (spR_f_led K m)) :
    FnG P w K mg base CX0 (0 + m + 1) f fd ["term", "names"] (spR_f_led K (m + 1)) := by
  refine okG F sc_f_led (fun vs H Q E h => ?_) (fun cdv A outer s H vs Q E hr h => ⟨_, (pss_cons (ps_if (pt_cmpR (op_gEq (K := K) rfl hr.units) (pe_ix (ix_g (K := K) rfl) (pv 0) pe_int (fun _ _ => rfl)) pe_str (nomark _)) (pss_one (ps_ret (pv 0))) pss_nil)
    (pss_cons (ps_if (pt_cmpR (op_gEq (K := K) rfl hr.units) (pe_ix (ix_g (K := K) rfl) (pv 0) pe_int (fun _ _ => rfl)) pe_str (nomark _)) (pss_one (ps_ret (pe_tup (pa_cons pe_str (pa_cons (pe_dget2 (u_one hr.units) (pv 1) (pe_ix (ix_g (K := K) rfl) (pv 0) pe_int (fun _ _ => rfl)) (pe_ix (ix_g (K := K) rfl) (pv 0) pe_int (fun _ _ => rfl)) ⟨rfl, rfl, rfl, rfl⟩) pa_nil))))) pss_nil)
    (pss_one (ps_ret (pe_tup (pa_cons (pe_ix (ix_g (K := K) rfl) (pv 0) pe_int (fun _ _ => rfl)) (pa_cons (pe_f D_f_led (hr.mono (by omega)) (by rfl) pass0 (pa_cons (pe_ix (ix_g (K := K) rfl) (pv 0) pe_int (fun _ _ => rfl)) (pa_cons (pv 1) pa_nil))) (pa_cons (pe_f D_f_led (hr.mono (by omega)) (by rfl) pass0 (pa_cons (pe_ix (ix_g (K := K) rfl) (pv 0) pe_int (fun _ _ => rfl)) (pa_cons (pv 1) pa_nil))) pa_nil)))))))), ?_⟩)
  · obtain ⟨_, _, _, _, rfl, _⟩ := h
    rfl
  · obtain ⟨v, d, t, kvs, rfl, hv, hd, hx, hn, hm, k⟩ := h
    try dsimp only [cxOf, Cx.nox, Cx.wish]
    change (_ : L2.TS) _ [some (v), some (.ref d)] _
    refine w_start ?_
    cases t with
    | num n =>
      obtain ⟨p, rfl, gp⟩ := id hv
      have n1 : (Str.ofString "num") = Str.ofString "num" := rfl
      repeat' (tm_at "rs")
      all_goals first | contradiction | skip
      exact k _ _ (Same.refl _) hv
    | name s =>
      obtain ⟨p, rfl, gp⟩ := hv
      have n1 : (Str.ofString "name") = Str.ofString "name" := rfl
      have n2 : ¬ (Str.ofString "name") = Str.ofString "num" := by decide
      repeat' (tm_at "rs")
      all_goals first | contradiction | skip
      rename_i t H2 nt st gt
      exact k _ _ st (tm_name gt)
    | op w a b =>
      obtain ⟨p, x, y, rfl, gp, ta, tb⟩ := hv
      obtain ⟨w1, w2, oa, ob⟩ := hn
      have hm : max a.dep b.dep + 1 ≤ m := hm
      cases m with
      | zero => exact absurd hm (by omega)
      | succ r =>
        repeat' (tm_at "rs")
        all_goals first | contradiction | skip
        refine call_led ta hd hx oa (by omega) (fun x2 H2 s2 t2 => ?_)
        have gp2 := gp.imp (Tk.sm s2)
        have hd2 := s2 _ _ hd
        repeat' (tm_at "rs")
        refine call_led (tb.sm s2) hd2 hx ob (by omega) (fun x3 H3 s3 t3 => ?_)
        repeat' (tm_at "rs")
        rename_i t H4 nt st gt
        exact k _ _ (s2.trans (s3.trans st)) (tm_op gt (t2.sm (s3.trans st)) (t3.sm st))
/-! ### renamed -/
theorem ok_f_renamed {f : Addr} {fd : FuncData} (F : Fun K "renamed" "renamed" s_f_renamed f fd) {C_Saying : Addr}
    (G_Saying : DefM P w K mg base CX0 "Saying" 1 ["self", "word", "left", "right"] (sp_f_Saying__init K) C_Saying)
    (SC_Saying : ClsN K "Saying" C_Saying ["word", "left", "right"])
    (D_f_led : Def P w K mg base CX0 "led" 7 ["term", "names"] (sp_f_led K)) :
    FnG P w K mg base CX0 8 f fd ["saying", "names"] (sp_f_renamed K) := by
  refine okG F sc_f_renamed (fun vs H Q E h => ?_) (fun cdv A outer s H vs Q E hr h => ⟨_, (pss_one (ps_ret (pe_mk G_Saying (hr.mono (by omega)) (by rfl) pass0 (pa_cons (pe_fld (pv 0) rfl) (pa_cons (pe_f D_f_led (hr.mono (by omega)) (by rfl) pass0 (pa_cons (pe_fld (pv 0) rfl) (pa_cons (pv 1) pa_nil))) (pa_cons (pe_f D_f_led (hr.mono (by omega)) (by rfl) pass0 (pa_cons (pe_fld (pv 0) rfl) (pa_cons (pv 1) pa_nil))) pa_nil)))))), ?_⟩)
  · obtain ⟨_, _, _, _, _, _, _, _, rfl, _⟩ := h
    rfl
  · obtain ⟨v, d, w, l, r, a, b, kvs, rfl, hv, ha, hb, hw, hd, hx, na, nb, da, db, k⟩ := h
    try dsimp only [cxOf, Cx.nox, Cx.wish]
    change (_ : L2.TS) _ [some (v), some (.ref d)] _
    refine w_start ?_
    repeat' (tm_at "rs")
    refine call_led ha hd hx na (by omega) (fun l2 H2 s2 t2 => ?_)
    have hv2 := hv.sm s2
    have hd2 := s2 _ _ hd
    repeat' (tm_at "rs")
    refine call_led (hb.sm s2) hd2 hx nb (by omega) (fun r2 H3 s3 t3 => ?_)
    repeat' (tm_at "rs")
    refine mk_say SC_Saying hw (fun z H6 n6 s6 hsay => ?_)
    repeat' (tm_at "rs")
    exact k _ _ _ _ (s2.trans (s3.trans s6)) hsay (t2.sm (s3.trans s6)) (t3.sm s6)
/-! ### let_by -/
theorem ok_f_let_by {f : Addr} {fd : FuncData} (F : Fun K "let_by" "let_by" s_f_let_by f fd) {t_MOST_BITS : Tok}
    (c_MOST_BITS : mg "MOST_BITS" = some (.int 1000000 t_MOST_BITS)) :
    FnG P w K mg base CX0 1 f fd ["number"] (sp_f_let_by K) := by
  refine okG F sc_f_let_by (fun vs H Q E h => ?_) (fun cdv A outer s H vs Q E hr h => ⟨_, (pss_cons (ps_if (pt_cmpR op_gGt (pe_bits (pv 0)) (pe_glob (v := .int 1000000) rfl c_MOST_BITS ⟨_, rfl⟩) (nomark _)) (pss_one ps_never) pss_nil)
    (pss_one (ps_ret (pv 0)))), ?_⟩)
  · obtain ⟨_, _, rfl, _⟩ := h
    rfl
  · obtain ⟨x, m, rfl, hx, hm, k⟩ := h
    try dsimp only [cxOf, Cx.nox, Cx.wish]
    change (_ : L2.TS) _ [some (.int x)] _
    refine w_start ?_
    have hb := PyProof.Rows.intBits_le hx
    repeat' (tm_at "rs")
    · rename_i b hb1 hb2 hb3
      exact False.elim (by omega)
    · exact k
/-! ### power_of -/
theorem ok_f_power_of {f : Addr} {fd : FuncData} (F : Fun K "power_of" "power_of" s_f_power_of f fd) {t_MOST_BITS : Tok}
    (D_f_let_by : Def P w K mg base CX0 "let_by" 1 ["number"] (sp_f_let_by K))
    (m_int : mg "int" = none)
    (c_MOST_BITS : mg "MOST_BITS" = some (.int 1000000 t_MOST_BITS)) :
    FnG P w K mg base CX0 2 f fd ["base", "n"] (sp_f_power_of K) := by
  refine okG F sc_f_power_of (fun vs H Q E h => ?_) (fun cdv A outer s H vs Q E hr h => ⟨_, (pss_cons (ps_if (pt_cmpR op_gLt (pv 0) pe_int (nomark _)) (pss_one (ps_ret (pe_callTy call_gInt (by rfl) m_int PyProof.Rows.boot_int (pa_cons (pe_or (pe_cmpR (op_gEq (K := K) rfl hr.units) (pv 0) pe_int (nomark _)) (pe_one (pe_cmpR (op_gEq (K := K) rfl hr.units) (pv 1) pe_int (nomark _)))) pa_nil)))) pss_nil)
    (pss_cons (ps_if (pt_cmpR op_gGe (pe_op op_gMul (pv 1) (pe_op op_sub (pe_bits (pv 0)) pe_int)) (pe_glob (v := .int 1000000) rfl c_MOST_BITS ⟨_, rfl⟩) (nomark _)) (pss_one ps_never) pss_nil)
    (pss_cons (ps_set (i := 2) sc_f_power_of.nd rfl (by first | exact Or.inl rfl | exact Or.inr rfl) pe_int)
    (pss_cons (ps_while PassesOwn.never (pt_cmpR op_gGt (pv 1) pe_int (nomark _)) (pss_cons (ps_if (pt_cmpR (op_gEq (K := K) rfl hr.units) (pe_op op_gAnd (pv 1) pe_int) pe_int (nomark _)) (pss_one (ps_aug (i := 2) sc_f_power_of.nd rfl (by first | exact Or.inl rfl | exact Or.inr rfl) (pv 0) ip_gMul)) pss_nil)
    (pss_cons (ps_aug (i := 1) sc_f_power_of.nd rfl (by first | exact Or.inl rfl | exact Or.inr rfl) pe_int ip_gShr)
    (pss_one (ps_if (pt_cmpR op_gGt (pv 1) pe_int (nomark _)) (pss_one (ps_aug (i := 0) sc_f_power_of.nd rfl (by first | exact Or.inl rfl | exact Or.inr rfl) (pv 0) ip_gMul)) pss_nil)))))
    (pss_one (ps_ret (pe_f D_f_let_by (hr.mono (by omega)) (by rfl) pass0 (pa_cons (pv 2) pa_nil)))))))), ?_⟩)
  · obtain ⟨_, _, _, rfl, _⟩ := h
    rfl
  · obtain ⟨b, e, m, rfl, hb, m1, hm, k⟩ := h
    try dsimp only [cxOf, Cx.nox, Cx.wish]
    change (_ : L2.TS) _ [some (.int (b : Int)), some (.int (e : Int)), none] _
    refine w_start ?_
    have bb := PyProof.Rows.intBits_le (a := (b : Int)) (k := m) (by rw [Int.natAbs_natCast]; exact hb)
    obtain ⟨hm, r, hbe, hr⟩ := hm
    have he : b < 2 ∨ (2 ≤ b ∧ e ≤ 1000000) := by
      rcases Nat.lt_or_ge b 2 with h | h
      · exact .inl h
      · refine .inr ⟨h, ?_⟩
        have m2 : 2 ≤ m := by
          rcases Nat.lt_or_ge m 2 with q | q
          · have : m = 1 := by omega
            subst this
            omega
          · exact q
        have := Nat.le_mul_of_pos_right e (show 0 < m - 1 by omega)
        omega
    rcases he with he | ⟨hb2, he⟩
    · repeat' (tm_at "rs")
      all_goals first | (exfalso; omega) | skip
      all_goals rename_i h0 h1 h2
      · have h : b = 1 := by omega
        rw [h, Nat.one_pow] at k
        exact k
      · cases h2
      · have h : e = 0 := by omega
        rw [h, Nat.pow_zero] at k
        exact k
      · have h : b = 0 := by omega
        rw [h, Nat.zero_pow (by omega)] at k
        exact k
    repeat' (tm_at "rs")
    all_goals first | (exfalso; omega) | skip
    · rename_i h0 β h1 h2 h3
      refine False.elim ?_
      have q1 : (e : Int) * ((β : Int) - 1) ≤ (e : Int) * ((m - 1 : Nat) : Int) := Int.mul_le_mul_of_nonneg_left (by omega) (by omega)
      rw [← Int.natCast_mul e (m - 1)] at q1
      generalize (e : Int) * ((β : Int) - 1) = X at *
      generalize e * (m - 1) = Y at *
      omega
    · rename_i h0 β h1 h2 h3
      refine w_while (fun M σ' H' => ∃ B N F : Nat, σ' = [some (.int (B : Int)), some (.int (N : Int)), some (.int (F : Int))] ∧ H' = H ∧ F * B ^ N = b ^ e ∧ 2 ≤ B ∧ 1 ≤ F ∧ M = N) e ⟨b, e, 1, rfl, rfl, Nat.one_mul _, by omega, by omega, rfl⟩ ?_
      rintro M σ' H' ⟨B, N, F, rfl, rfl, hP, hB2, hF1, rfl⟩
      have hBN : 1 ≤ B ^ M := Nat.pow_pos (by omega)
      have hFP : F ≤ b ^ e := by
        rw [← hP]
        exact Nat.le_mul_of_pos_right F hBN
      have hFb : F < 2 ^ r := Nat.lt_of_le_of_lt hFP hbe
      rcases Nat.eq_zero_or_pos M with h0 | h0
      · subst h0
        repeat' (tm_at "rs")
        all_goals first | (exfalso; omega) | skip
        · rw [Nat.pow_zero, Nat.mul_one] at hP
          refine call_let_by (m := r) ?_ hr ?_
          · rw [Int.natAbs_natCast, hP]
            exact hbe
          · repeat' (tm_at "rs")
            rw [hP]
            exact k
      · have hBP : B ≤ b ^ e := by
          rw [← hP]
          have q1 : B ^ 1 ≤ B ^ M := Nat.pow_le_pow_right (by omega) h0
          rw [Nat.pow_one] at q1
          exact Nat.le_trans q1 (Nat.le_mul_of_pos_left _ hF1)
        have hBb : B < 2 ^ r := Nat.lt_of_le_of_lt hBP hbe
        have hc1 : CM (F : Int) (B : Int) := .inr (mulx_ok (a := r) (b := r) (by rw [Int.natAbs_natCast]; exact hFb) (by rw [Int.natAbs_natCast]; exact hBb) (by omega))
        have hc2 : CM (B : Int) (B : Int) := .inr (mulx_ok (a := r) (b := r) (by rw [Int.natAbs_natCast]; exact hBb) (by rw [Int.natAbs_natCast]; exact hBb) (by omega))
        repeat' (tm_at "rs")
        · rename_i c0 z z1 z2 z3 z4 z5 c1
          have hz : z = ((M % 2 : Nat) : Int) := by
            rw [z1, and_one (by omega)]
            rfl
          exact ⟨M / 2, by omega, B * B, M / 2, F * B, rfl, rfl, by rw [pw_odd (by omega)]; exact hP, Nat.le_trans hB2 (Nat.le_mul_of_pos_left _ (by omega)), Nat.mul_pos hF1 (by omega), rfl⟩
        · rename_i c0 z z1 z2 z3 z4 z5 c1
          have hM : M = 1 := by omega
          subst hM
          rw [Nat.pow_one] at hP
          exact ⟨0, by omega, B, 0, F * B, rfl, rfl, by rw [Nat.pow_zero, Nat.mul_one]; exact hP, hB2, Nat.mul_pos hF1 (by omega), rfl⟩
        · rename_i c0 z z1 z2 z3 z4 z5 c1
          have hz : z = ((M % 2 : Nat) : Int) := by
            rw [z1, and_one (by omega)]
            rfl
          exact ⟨M / 2, by omega, B * B, M / 2, F, rfl, rfl, by rw [pw_even (by omega)]; exact hP, Nat.le_trans hB2 (Nat.le_mul_of_pos_left _ (by omega)), hF1, rfl⟩
        · rename_i c0 z z1 z2 z3 z4 z5 c1
          have hz : z = ((M % 2 : Nat) : Int) := by
            rw [z1, and_one (by omega)]
            rfl
          exfalso
          omega
        · rename_i c0
          exfalso
          omega
/-! ### product -/
theorem ok_f_product {f : Addr} {fd : FuncData} (F : Fun K "product" "product" s_f_product f fd) {t_MOST_BITS : Tok}
    (D_f_let_by : Def P w K mg base CX0 "let_by" 1 ["number"] (sp_f_let_by K))
    (c_MOST_BITS : mg "MOST_BITS" = some (.int 1000000 t_MOST_BITS)) :
    FnG P w K mg base CX0 2 f fd ["one", "other"] (sp_f_product K) := by
  refine okG F sc_f_product (fun vs H Q E h => ?_) (fun cdv A outer s H vs Q E hr h => ⟨_, (pss_cons (ps_if (PW.pt (pw_or (pt_cmpR (op_gEq (K := K) rfl hr.units) (pv 0) pe_int (nomark _)) (pw_or1 (pt_cmpR (op_gEq (K := K) rfl hr.units) (pv 1) pe_int (nomark _))))) (pss_one (ps_ret pe_int)) pss_nil)
    (pss_cons (ps_if (pt_cmpR op_gGt (pe_op (op_gAdd (K := K) rfl) (pe_bits (pv 0)) (pe_bits (pv 1))) (pe_op (op_gAdd (K := K) rfl) (pe_glob (v := .int 1000000) rfl c_MOST_BITS ⟨_, rfl⟩) pe_int) (nomark _)) (pss_one ps_never) pss_nil)
    (pss_one (ps_ret (pe_f D_f_let_by (hr.mono (by omega)) (by rfl) pass0 (pa_cons (pe_op op_gMul (pv 0) (pv 1)) pa_nil)))))), ?_⟩)
  · obtain ⟨_, _, _, _, rfl, _⟩ := h
    rfl
  · obtain ⟨x, y, n, m, rfl, hx, hy, hm, k⟩ := h
    try dsimp only [cxOf, Cx.nox, Cx.wish]
    change (_ : L2.TS) _ [some (.int (x : Int)), some (.int (y : Int))] _
    refine w_start ?_
    have bx := PyProof.Rows.intBits_le (a := (x : Int)) (k := n) (by rw [Int.natAbs_natCast]; exact hx)
    have by' := PyProof.Rows.intBits_le (a := (y : Int)) (k := m) (by rw [Int.natAbs_natCast]; exact hy)
    have hc : CM (x : Int) (y : Int) := .inr (mulx_ok (a := n) (b := m) (by rw [Int.natAbs_natCast]; exact hx) (by rw [Int.natAbs_natCast]; exact hy) (by omega))
    repeat' (tm_at "rs")
    · rename_i h
      have h : x = 0 := by omega
      rw [h, Nat.zero_mul] at k
      exact k
    · rename_i h0 h
      have h : y = 0 := by omega
      rw [h, Nat.mul_zero] at k
      exact k
    · exact False.elim (by omega)
    · refine call_let_by (m := n + m) ?_ hm ?_
      · rw [← Int.natCast_mul, Int.natAbs_natCast, Nat.pow_add]
        exact Nat.mul_lt_mul'' hx hy
      · repeat' (tm_at "rs")
        rw [← Int.natCast_mul]
        exact k
/-! ### come_to -/
theorem ok_f_come_to {f : Addr} {fd : FuncData} (F : Fun K "come_to" "come_to" s_f_come_to f fd)
    (D_f_power_of : Def P w K mg base CX0 "power_of" 2 ["base", "n"] (sp_f_power_of K))
    (D_f_let_by : Def P w K mg base CX0 "let_by" 1 ["number"] (sp_f_let_by K))
    (D_f_product : Def P w K mg base CX0 "product" 2 ["one", "other"] (sp_f_product K)) :
    FnG P w K mg base CX0 3 f fd ["word", "one", "other"] (sp_f_come_to K) := by
  refine okG F sc_f_come_to (fun vs H Q E h => ?_) (fun cdv A outer s H vs Q E hr h => ⟨_, (pss_cons (ps_if (pt_cmpR (op_gEq (K := K) rfl hr.units) (pv 0) pe_str (nomark _)) (pss_one (ps_ret (pe_f D_f_let_by (hr.mono (by omega)) (by rfl) pass0 (pa_cons (pe_op (op_gAdd (K := K) rfl) (pv 1) (pv 2)) pa_nil)))) pss_nil)
    (pss_cons (ps_if (pt_cmpR (op_gEq (K := K) rfl hr.units) (pv 0) pe_str (nomark _)) (pss_one (ps_ret (pe_f D_f_product (hr.mono (by omega)) (by rfl) pass0 (pa_cons (pv 1) (pa_cons (pv 2) pa_nil))))) pss_nil)
    (pss_one (ps_ret (pe_f D_f_power_of (hr.mono (by omega)) (by rfl) pass0 (pa_cons (pv 1) (pa_cons (pv 2) pa_nil))))))), ?_⟩)
  · obtain ⟨_, _, _, rfl, _⟩ := h
    rfl
  · obtain ⟨w, x, y, rfl, hc, k⟩ := h
    try dsimp only [cxOf, Cx.nox, Cx.wish]
    change (_ : L2.TS) _ [some (.str w), some (.int (x : Int)), some (.int (y : Int))] _
    refine w_start ?_
    obtain ⟨n, n1, hx, hc⟩ := hc
    repeat' (tm_at "rs")
    · rename_i hw
      subst hw
      have hy : y < 2 ^ n ∧ n + 1 ≤ 1000000 := by
        rcases hc with ⟨_, h1, h2⟩ | ⟨h, _⟩ | ⟨h, _⟩
        · exact ⟨h1, h2⟩
        · exact absurd h (by decide)
        · exact absurd rfl h
      refine call_let_by (m := n + 1) ?_ hy.2 ?_
      · rw [← Int.natCast_add, Int.natAbs_natCast, Nat.pow_succ]
        omega
      · repeat' (tm_at "rs")
        rw [← Int.natCast_add]
        exact k
    · rename_i h0 hw
      subst hw
      obtain ⟨m, hy, hm⟩ : ∃ m : Nat, y < 2 ^ m ∧ n + m ≤ 1000000 := by
        rcases hc with ⟨h, _⟩ | ⟨_, h⟩ | ⟨_, h, _⟩
        · exact absurd h (by decide)
        · exact h
        · exact absurd rfl h
      refine call_product hx hy hm ?_
      repeat' (tm_at "rs")
      exact k
    · rename_i h0 h1
      have hm : PwOk x y n := by
        rcases hc with ⟨h, _⟩ | ⟨h, _⟩ | ⟨_, _, h⟩
        · exact absurd h h0
        · exact absurd h h1
        · exact h
      refine call_power_of hx n1 hm ?_
      repeat' (tm_at "rs")
      unfold cm at k
      rw [if_neg h0, if_neg h1] at k
      exact k
/-! ### number_of -/
theorem ok_f_number_of {f : Addr} {fd : FuncData} (F : Fun K "number_of" "number_of" s_f_number_of f fd) :
    FnG P w K mg base CX0 1 f fd ["name", "answer"] (sp_f_number_of K) := by
  refine okG F sc_f_number_of (fun vs H Q E h => ?_) (fun cdv A outer s H vs Q E hr h => ⟨_, (pss_one (ps_try_thru0 (pss_one (ps_ret (pe_dget (u_one hr.units) (pv 1) (pv 0) (fun _ _ => rfl)))))), ?_⟩)
  · obtain ⟨_, _, _, _, rfl, _⟩ := h
    rfl
  · obtain ⟨s, d, kvs, x, rfl, hd, hv, k⟩ := h
    try dsimp only [cxOf, Cx.nox, Cx.wish]
    change (_ : L2.TS) _ [some (.str s), some (.ref d), none] _
    refine w_start ?_
    repeat' (tm_at "rs")
    exact k
/-! ### worth -/
theorem ok_f_worth {f : Addr} {fd : FuncData} (F : Fun K "worth" "worth" s_f_worth f fd)
    (D_f_come_to : Def P w K mg base CX0 "come_to" 3 ["word", "one", "other"] (sp_f_come_to K))
    (D_f_let_by : Def P w K mg base CX0 "let_by" 1 ["number"] (sp_f_let_by K))
    (D_f_number_of : Def P w K mg base CX0 "number_of" 1 ["name", "answer"] (sp_f_number_of K))
    (m_len : mg "len" = none) :
    FnG P w K mg base CX0 4 f fd ["term", "answer"] (sp_f_worth K) := by
  refine okG F sc_f_worth (fun vs H Q E h => ?_) (fun cdv A outer s H vs Q E hr h => ⟨_, (pss_cons (ps_set (i := 2) sc_f_worth.nd rfl (by first | exact Or.inl rfl | exact Or.inr rfl) (pe_lst pa_nil))
    (pss_cons (ps_set (i := 3) sc_f_worth.nd rfl (by first | exact Or.inl rfl | exact Or.inr rfl) (pe_lst (pa_cons (pe_tup (pa_cons (pv 0) (pa_cons pe_bl pa_nil))) pa_nil)))
    (pss_cons (ps_while PassesOwn.never (pt_cmpR op_gGt (pe_callB (call_gLen (K := K) rfl) (by rfl) m_len PySem.boot_len (pa_cons (pv 3) pa_nil)) pe_int (nomark _)) (pss_cons (ps_asg (pe_gbm0 (K := K) rfl PySem.F.plainAttrs_list PySem.F.slot_list_pop PySem.F.type_list_pop mt_pop (pv 3)) (pg_gt (K := K) (n := 2) rfl rfl (pgs_cons (pg_name (i := 4) sc_f_worth.nd rfl (by first | exact Or.inl rfl | exact Or.inr rfl)) (pgs_cons (pg_name (i := 5) sc_f_worth.nd rfl (by first | exact Or.inl rfl | exact Or.inr rfl)) pgs_nil))))
    (pss_one (ps_if (pt_val (pv 5)) (pss_cons (ps_set (i := 6) sc_f_worth.nd rfl (by first | exact Or.inl rfl | exact Or.inr rfl) (pe_gbm0 (K := K) rfl PySem.F.plainAttrs_list PySem.F.slot_list_pop PySem.F.type_list_pop mt_pop (pv 2)))
    (pss_one (ps_expr (pe_gbm (K := K) rfl PySem.F.plainAttrs_list PySem.F.slot_list_append PySem.F.type_list_append mt_append (pv 2) (pa_cons (pe_f D_f_come_to (hr.mono (by omega)) (by rfl) pass0 (pa_cons (pe_ix (ix_g (K := K) rfl) (pv 4) pe_int (fun _ _ => rfl)) (pa_cons (pe_gbm0 (K := K) rfl PySem.F.plainAttrs_list PySem.F.slot_list_pop PySem.F.type_list_pop mt_pop (pv 2)) (pa_cons (pv 6) pa_nil)))) pa_nil))))) (pss_one (ps_if (pt_cmpR (op_gEq (K := K) rfl hr.units) (pe_ix (ix_g (K := K) rfl) (pv 4) pe_int (fun _ _ => rfl)) pe_str (nomark _)) (pss_one (ps_expr (pe_gbm (K := K) rfl PySem.F.plainAttrs_list PySem.F.slot_list_append PySem.F.type_list_append mt_append (pv 2) (pa_cons (pe_f D_f_let_by (hr.mono (by omega)) (by rfl) pass0 (pa_cons (pe_ix (ix_g (K := K) rfl) (pv 4) pe_int (fun _ _ => rfl)) pa_nil)) pa_nil)))) (pss_one (ps_if (pt_cmpR (op_gEq (K := K) rfl hr.units) (pe_ix (ix_g (K := K) rfl) (pv 4) pe_int (fun _ _ => rfl)) pe_str (nomark _)) (pss_one (ps_expr (pe_gbm (K := K) rfl PySem.F.plainAttrs_list PySem.F.slot_list_append PySem.F.type_list_append mt_append (pv 2) (pa_cons (pe_f D_f_let_by (hr.mono (by omega)) (by rfl) pass0 (pa_cons (pe_f D_f_number_of (hr.mono (by omega)) (by rfl) pass0 (pa_cons (pe_ix (ix_g (K := K) rfl) (pv 4) pe_int (fun _ _ => rfl)) (pa_cons (pv 1) pa_nil))) pa_nil)) pa_nil)))) (pss_one (ps_expr (pe_gbm (K := K) rfl PySem.F.plainAttrs_list PySem.F.slot_list_extend PySem.F.type_list_extend mt_extend (pv 3) (pa_cons (pe_lst (pa_cons (pe_tup (pa_cons (pv 4) (pa_cons pe_bl pa_nil))) (pa_cons (pe_tup (pa_cons (pe_ix (ix_g (K := K) rfl) (pv 4) pe_int (fun _ _ => rfl)) (pa_cons pe_bl pa_nil))) (pa_cons (pe_tup (pa_cons (pe_ix (ix_g (K := K) rfl) (pv 4) pe_int (fun _ _ => rfl)) (pa_cons pe_bl pa_nil))) pa_nil)))) pa_nil))))))))))))
    (pss_one (ps_ret (pe_ix (ix_g (K := K) rfl) (pv 2) pe_int (fun _ _ => rfl))))))), ?_⟩)
  · obtain ⟨_, _, _, _, _, rfl, _⟩ := h
    rfl
  · obtain ⟨v, d, t, kvs, g, rfl, hv, hd, ht, hw, k⟩ := h
    try dsimp only [cxOf, Cx.nox, Cx.wish]
    change (_ : L2.TS) _ [some (v), some (.ref d), none, none, none, none, none] _
    refine w_start ?_
    repeat' (tm_at "rs")
    rename_i M H1 nM sM gM q0 H2 nq sq gq L H3 nL sL gL
    have ML : M ≠ L := ne_of_none (sq _ _ gM) nL
    have nM0 : H M = none := nM
    have nL0 : H L = none := sM.free (sq.free nL)
    have gq3 := sL _ _ gq
    have gM3 := sL _ _ (sq _ _ gM)
    have hv3 : TmAt K H3 t v := ((hv.sm sM).sm sq).sm sL
    have sm3 : Sm H H3 := Same.trans sM (Same.trans sq sL)
    refine w_while (fun m σ' H' => ∃ (x4 x5 x6 : Option V) (S : List (Tm × Bool)) (N : List Nat) (qs : List V), σ' = [some v, some (.ref d), some (.ref M), some (.ref L), x4, x5, x6] ∧ H' L = some (.lst qs) ∧ Paired (StAt K H') qs S ∧ H' M = some (.lst (nV N)) ∧ WkOk kvs g (ev g t) S.reverse N.reverse ∧ wks S.reverse + N.length ≤ t.wt ∧ Sm H H' ∧ m = wks S.reverse) _ ⟨_, _, _, [(t, false)], [], [.ref q0], rfl, gL, .cons ⟨q0, v, rfl, gq3, hv3⟩ .nil, gM3, ⟨ht, rfl⟩, by show t.wt + 0 + 0 ≤ t.wt; omega, sm3, rfl⟩ ?_
    rintro m σ' H' ⟨x4, x5, x6, S, N, qs, rfl, hL, hP, hM, hW, hB, hS, rfl⟩
    have hdd := hS _ _ hd
    have dL : d ≠ L := ne_of hdd hL (by intro z; cases z)
    have dM : d ≠ M := ne_of hdd hM (by intro z; cases z)
    have hNl : (nV N).length ≤ 10000 := by rw [nV_len]; omega
    have hql : qs.length ≤ 10000 := by
      have h1 := paired_len hP
      have h2 := wks_len S.reverse
      rw [List.length_reverse] at h2
      omega
    rcases List.eq_nil_or_concat S with rfl | ⟨S', s, rfl⟩
    · cases hP
      have hN : N = [ev g t] := by
        have h : N.reverse = [ev g t] := hW
        rw [← List.reverse_reverse N, h]
        rfl
      subst hN
      have hM1 : H' M = some (.lst [V.int ((ev g t : Nat) : Int)]) := hM
      have c0 : ¬ (0 : Int) < (([] : List V).length : Int) := by decide
      repeat' (tm_at "rs")
      all_goals first | contradiction | exact k _ hS
    · rw [List.concat_eq_append] at *
      obtain ⟨qs', q, rfl, hP', p, x, rfl, gp, tx⟩ := paired_last hP
      rw [List.reverse_append] at hW hB
      have pL : p ≠ L := ne_of gp hL (by intro z; cases z)
      have pM : p ≠ M := ne_of gp hM (by intro z; cases z)
      have hlen : (qs' ++ [V.ref p]).length = qs'.length + 1 := by rw [List.length_append]; rfl
      rw [hlen] at hql
      have c0 : (0 : Int) < ((qs' ++ [V.ref p]).length : Int) := by rw [hlen]; omega
      obtain ⟨t', k'⟩ := s
      have hm : wks (S' ++ [(t', k')]).reverse = wk (t', k') + wks S'.reverse := by
        rw [List.reverse_append]
        rfl
      rw [hm]
      have hB : wk (t', k') + wks S'.reverse + N.length ≤ t.wt := hB
      cases k' with
      | true =>
        obtain ⟨w, a, b, x', y', N', rfl, hN, hc, hW'⟩ := hW
        obtain ⟨p2, xa, xb, rfl, gp2, ta, tb⟩ := tx
        have hN2 : N = (N'.reverse ++ [x']) ++ [y'] := by
          rw [← List.reverse_reverse N, hN]
          simp
        subst hN2
        rw [nV_snoc, nV_snoc] at hM
        rw [List.length_append, List.length_append] at hB
        have hB : 1 + wks S'.reverse + (N'.reverse.length + 1 + 1) ≤ t.wt := hB
        have hz : (nV N'.reverse).length ≤ 10000 := by rw [nV_len]; omega
        repeat' (tm_at "rs")
        all_goals first | contradiction | skip
        refine call_come_to hc ?_
        repeat' (tm_at "rs")
        rename_i Ha ka ga Hb kb gb Hc kc gc Hd kd gd
        have hT : Tk H' Hd := fun p xs q => tup_kpL gc kd _ _ (tup_kpL gb kc _ _ (tup_kpL (ka _ _ ML hM) kb _ _ (tup_kpL hL ka _ _ q)))
        have LM : L ≠ M := ML.symm
        refine ⟨_, ?_, _, _, _, S', N'.reverse ++ [cm w x' y'], qs', rfl, by tm_at "rlk", paired_mono (fun _ _ h => h.imp hT) hP', by rw [nV_snoc]; exact gd, ?_, ?_, by tm_at "rsm", rfl⟩
        · show wks S'.reverse < 1 + wks S'.reverse
          omega
        · rw [List.reverse_append, List.reverse_reverse]
          exact hW'
        · rw [List.length_append]
          show wks S'.reverse + (N'.reverse.length + 1) ≤ t.wt
          omega
      | false =>
        obtain ⟨hT, hW'⟩ := hW
        cases t' with
        | num n =>
          obtain ⟨p2, rfl, gp2⟩ := tx
          have n1 : (Str.ofString "num") = Str.ofString "num" := rfl
          obtain ⟨r, hr1, hr2⟩ := hT
          repeat' (tm_at "rs")
          all_goals first | contradiction | skip
          refine call_let_by (m := r) (by rw [Int.natAbs_natCast]; exact hr1) hr2 ?_
          repeat' (tm_at "rs")
          rename_i Ha ka ga Hd kd gd
          have hT : Tk H' Hd := fun p xs q => tup_kpL (ka _ _ ML hM) kd _ _ (tup_kpL hL ka _ _ q)
          have LM : L ≠ M := ML.symm
          refine ⟨_, ?_, _, _, _, S', N ++ [n], qs', rfl, by tm_at "rlk", paired_mono (fun _ _ h => h.imp hT) hP', by rw [nV_snoc]; exact gd, ?_, ?_, by tm_at "rsm", rfl⟩
          · show wks S'.reverse < 1 + wks S'.reverse
            omega
          · rw [List.reverse_append]
            exact hW'
          · rw [List.length_append]
            have hB : 1 + wks S'.reverse + N.length ≤ t.wt := hB
            show wks S'.reverse + (N.length + 1) ≤ t.wt
            omega
        | name z =>
          obtain ⟨p2, rfl, gp2⟩ := tx
          have n1 : (Str.ofString "name") = Str.ofString "name" := rfl
          have n2 : ¬ (Str.ofString "name") = Str.ofString "num" := by decide
          obtain ⟨hT0, r, hr1, hr2⟩ := hT
          repeat' (tm_at "rs")
          all_goals first | contradiction | skip
          refine call_number_of (by tm_at "rlk") hT0 ?_
          repeat' (tm_at "rs")
          refine call_let_by (m := r) (by rw [Int.natAbs_natCast]; exact hr1) hr2 ?_
          repeat' (tm_at "rs")
          rename_i Ha ka ga Hd kd gd
          have hT : Tk H' Hd := fun p xs q => tup_kpL (ka _ _ ML hM) kd _ _ (tup_kpL hL ka _ _ q)
          have LM : L ≠ M := ML.symm
          refine ⟨_, ?_, _, _, _, S', N ++ [g z], qs', rfl, by tm_at "rlk", paired_mono (fun _ _ h => h.imp hT) hP', by rw [nV_snoc]; exact gd, ?_, ?_, by tm_at "rsm", rfl⟩
          · show wks S'.reverse < 1 + wks S'.reverse
            omega
          · rw [List.reverse_append]
            exact hW'
          · rw [List.length_append]
            have hB : 1 + wks S'.reverse + N.length ≤ t.wt := hB
            show wks S'.reverse + (N.length + 1) ≤ t.wt
            omega
        | op w a b =>
          obtain ⟨p2, xa, xb, rfl, gp2, ta, tb⟩ := tx
          obtain ⟨hw1, hw2, oa, ob, hc⟩ := hT
          repeat' (tm_at "rs")
          all_goals first | contradiction | skip
          rename_i cc0 Ha ka ga cc1 cc2 t1 Hb n1 s1 g1 t2 Hc n2 s2 g2 t3 Hd n3 s3 g3 l He nl sl gl Hf kf gf
          have gLe : He L = some (.lst qs') := sl _ _ (s3 _ _ (s2 _ _ (s1 _ _ ga)))
          have hT : Tk H' Hf := fun p xs q => tup_kpL gLe kf _ _ (sl _ _ (s3 _ _ (s2 _ _ (s1 _ _ (tup_kpL hL ka _ _ q)))))
          have hT1 : Hf t1 = some (.tup [.ref p2, .bl true]) := tup_kpL gLe kf _ _ (sl _ _ (s3 _ _ (s2 _ _ g1)))
          have hT2 : Hf t2 = some (.tup [xb, .bl false]) := tup_kpL gLe kf _ _ (sl _ _ (s3 _ _ g2))
          have hT3 : Hf t3 = some (.tup [xa, .bl false]) := tup_kpL gLe kf _ _ (sl _ _ g3)
          have gMf : Hf M = some (.lst (nV N)) := kf _ _ ML (sl _ _ (s3 _ _ (s2 _ _ (s1 _ _ (ka _ _ ML hM)))))
          have hrev : (S' ++ [(Tm.op w a b, true), (b, false), (a, false)]).reverse = (a, false) :: (b, false) :: (Tm.op w a b, true) :: S'.reverse := by
            rw [List.reverse_append]
            rfl
          have hB : a.wt + b.wt + 2 + wks S'.reverse + N.length ≤ t.wt := hB
          refine ⟨wks ((a, false) :: (b, false) :: (Tm.op w a b, true) :: S'.reverse), ?_, _, _, _, S' ++ [(Tm.op w a b, true), (b, false), (a, false)], N, _, rfl, gf, paired_app (paired_mono (fun _ _ h => h.imp hT) hP') (.cons ⟨t1, _, rfl, hT1, p2, xa, xb, rfl, gp2.imp hT, ta.imp hT, tb.imp hT⟩ (.cons ⟨t2, _, rfl, hT2, tb.imp hT⟩ (.cons ⟨t3, _, rfl, hT3, ta.imp hT⟩ .nil))), gMf, ?_, ?_, by tm_at "rsm", by rw [hrev]⟩
          · show a.wt + (b.wt + (1 + wks S'.reverse)) < a.wt + b.wt + 2 + wks S'.reverse
            omega
          · rw [hrev]
            exact ⟨oa, ob, w, a, b, ev g a, ev g b, N.reverse, rfl, rfl, hc, hW'⟩
          · rw [hrev]
            show a.wt + (b.wt + (1 + wks S'.reverse)) + N.length ≤ t.wt
            omega
/-! ### holds -/
theorem ok_f_holds {f : Addr} {fd : FuncData} (F : Fun K "holds" "holds" s_f_holds f fd)
    (D_f_worth : Def P w K mg base CX0 "worth" 4 ["term", "answer"] (sp_f_worth K))
    (D_f_fits : Def P w K mg base CX0 "fits" 1 ["one", "other"] (sp_f_fits K)) :
    FnG P w K mg base CX0 5 f fd ["saying", "answer"] (sp_f_holds K) := by
  refine okG F sc_f_holds (fun vs H Q E h => ?_) (fun cdv A outer s H vs Q E hr h => ⟨_, (pss_cons (ps_set (i := 2) sc_f_holds.nd rfl (by first | exact Or.inl rfl | exact Or.inr rfl) (pe_f D_f_worth (hr.mono (by omega)) (by rfl) pass0 (pa_cons (pe_fld (pv 0) rfl) (pa_cons (pv 1) pa_nil))))
    (pss_cons (ps_set (i := 3) sc_f_holds.nd rfl (by first | exact Or.inl rfl | exact Or.inr rfl) (pe_f D_f_worth (hr.mono (by omega)) (by rfl) pass0 (pa_cons (pe_fld (pv 0) rfl) (pa_cons (pv 1) pa_nil))))
    (pss_cons (ps_if (pt_cmpR (op_gEq (K := K) rfl hr.units) (pe_fld (pv 0) rfl) pe_str (nomark _)) (pss_one (ps_ret (pe_f D_f_fits (hr.mono (by omega)) (by rfl) pass0 (pa_cons (pv 2) (pa_cons (pv 3) pa_nil))))) pss_nil)
    (pss_one (ps_ret (pe_cmpR (op_gEq (K := K) rfl hr.units) (pv 2) (pv 3) (nomark _))))))), ?_⟩)
  · obtain ⟨_, _, _, _, _, _, _, _, _, rfl, _⟩ := h
    rfl
  · obtain ⟨v, d, w, l, r, a, b, kvs, g, rfl, hs, ha, hb, hd, oa, ob, wa, wb, k⟩ := h
    try dsimp only [cxOf, Cx.nox, Cx.wish]
    change (_ : L2.TS) _ [some (v), some (.ref d), none, none] _
    refine w_start ?_
    repeat' (tm_at "rs")
    refine call_worth ha hd oa wa (fun H1 s1 => ?_)
    repeat' (tm_at "rs")
    refine call_worth (hb.sm s1) (s1 _ _ hd) ob wb (fun H2 s2 => ?_)
    repeat' (tm_at "rs")
    · rename_i hw
      refine cast ?_ (k H2 (Same.trans s1 s2))
      rw [if_pos hw]
      congr 2
      refine decide_eq_decide.mpr ?_
      rw [and_nat]
      omega
    · rename_i hw
      refine cast ?_ (k H2 (Same.trans s1 s2))
      rw [if_neg hw]
      congr 2
      refine decide_eq_decide.mpr ?_
      omega
/-! ### off -/
theorem ok_f_off {f : Addr} {fd : FuncData} (F : Fun K "off" "off" s_f_off f fd)
    (D_f_worth : Def P w K mg base CX0 "worth" 4 ["term", "answer"] (sp_f_worth K))
    (D_f_stands_out : Def P w K mg base CX0 "stands_out" 1 ["one", "other"] (sp_f_stands_out K)) :
    FnG P w K mg base CX0 5 f fd ["saying", "answer"] (sp_f_off K) := by
  refine okG F sc_f_off (fun vs H Q E h => ?_) (fun cdv A outer s H vs Q E hr h => ⟨_, (pss_cons (ps_set (i := 2) sc_f_off.nd rfl (by first | exact Or.inl rfl | exact Or.inr rfl) (pe_f D_f_worth (hr.mono (by omega)) (by rfl) pass0 (pa_cons (pe_fld (pv 0) rfl) (pa_cons (pv 1) pa_nil))))
    (pss_cons (ps_set (i := 3) sc_f_off.nd rfl (by first | exact Or.inl rfl | exact Or.inr rfl) (pe_f D_f_worth (hr.mono (by omega)) (by rfl) pass0 (pa_cons (pe_fld (pv 0) rfl) (pa_cons (pv 1) pa_nil))))
    (pss_cons (ps_set (i := 4) sc_f_off.nd rfl (by first | exact Or.inl rfl | exact Or.inr rfl) (pe_op op_sub (pv 2) (pv 3)))
    (pss_cons (ps_if (pt_cmpR (op_gEq (K := K) rfl hr.units) (pe_fld (pv 0) rfl) pe_str (nomark _)) (pss_one (ps_set (i := 4) sc_f_off.nd rfl (by first | exact Or.inl rfl | exact Or.inr rfl) (pe_f D_f_stands_out (hr.mono (by omega)) (by rfl) pass0 (pa_cons (pv 2) (pa_cons (pv 3) pa_nil))))) pss_nil)
    (pss_one (ps_ret (pe_op op_gMul (pv 4) (pv 4)))))))), ?_⟩)
  · obtain ⟨_, _, _, _, _, _, _, _, _, rfl, _⟩ := h
    rfl
  · obtain ⟨v, d, w, l, r, a, b, kvs, g, rfl, hs, ha, hb, hd, oa, ob, wa, wb, k⟩ := h
    try dsimp only [cxOf, Cx.nox, Cx.wish]
    change (_ : L2.TS) _ [some (v), some (.ref d), none, none, none] _
    refine w_start ?_
    repeat' (tm_at "rs")
    refine call_worth ha hd oa wa (fun H1 s1 => ?_)
    repeat' (tm_at "rs")
    refine call_worth (hb.sm s1) (s1 _ _ hd) ob wb (fun H2 s2 => ?_)
    obtain ⟨r1, hr1, hr2⟩ := tm_bd oa
    obtain ⟨q1, hq1, hq2⟩ := tm_bd ob
    obtain ⟨c1, c2⟩ := gap_ok hr1 hr2 hq1 hq2
    have e : ((ev g a : Nat) : Int) - Builtin.bitAnd ((ev g a : Nat) : Int) ((ev g b : Nat) : Int) = ((stn (ev g a) (ev g b) : Nat) : Int) := by
      rw [and_nat]
      unfold stn
      have := @Nat.and_le_left (ev g a) (ev g b)
      omega
    rw [← e] at c2
    repeat' (tm_at "rs")
    · rename_i hw
      refine cast ?_ (k H2 (Same.trans s1 s2))
      unfold offI
      rw [if_pos hw, e]
    · rename_i hw
      refine cast ?_ (k H2 (Same.trans s1 s2))
      unfold offI
      rw [if_neg hw]
/-! ### first_wrong -/
theorem ok_f_first_wrong {f : Addr} {fd : FuncData} (F : Fun K "first_wrong" "first_wrong" s_f_first_wrong f fd)
    (D_f_holds : Def P w K mg base CX0 "holds" 5 ["saying", "answer"] (sp_f_holds K))
    (m_enumerate : mg "enumerate" = none) :
    FnG P w K mg base CX0 6 f fd ["sayings", "answer"] (sp_f_first_wrong K) := by
  refine okG F sc_f_first_wrong (fun vs H Q E h => ?_) (fun cdv A outer s H vs Q E hr h => ⟨_, (pss_cons (ps_for PassesOwn.never rfl (pi_or (pi_enum (by rfl) m_enumerate (pa_cons (pv 0) pa_nil)) (pi_enT (by rfl) m_enumerate (pa_cons (pv 0) pa_nil))) (pg_gt (K := K) (n := 2) rfl rfl (pgs_cons (pg_name (i := 2) sc_f_first_wrong.nd rfl (by first | exact Or.inl rfl | exact Or.inr rfl)) (pgs_cons (pg_name (i := 3) sc_f_first_wrong.nd rfl (by first | exact Or.inl rfl | exact Or.inr rfl)) pgs_nil))) (pss_one (ps_if (pt_not (pt_val (pe_f D_f_holds (hr.mono (by omega)) (by rfl) pass0 (pa_cons (pv 3) (pa_cons (pv 1) pa_nil))))) (pss_one (ps_ret (pv 2))) pss_nil)))
    (pss_one (ps_ret pe_non))), ?_⟩)
  · obtain ⟨_, _, _, _, _, _, rfl, _⟩ := h
    rfl
  · obtain ⟨p, d, xs, bs, kvs, g, rfl, hp, hx, hd, k⟩ := h
    try dsimp only [cxOf, Cx.nox, Cx.wish]
    change (_ : L2.TS) _ [some (.ref p), some (.ref d), none, none] _
    refine w_start ?_
    have hxl := paired_len hx
    repeat' (tm_at "rs")
    rcases hp with hp | hp
    · refine .inl ?_
      repeat' (tm_at "rs")
      refine loopEn (xs := xs) (fun i σ' H' => ∃ (x1 x2 : Option V), σ' = [some (.ref p), some (.ref d), x1, x2] ∧ Sm H H' ∧ ∀ c ∈ bs.take i, c = true) ⟨_, _, rfl, Same.refl _, fun c h => by cases h⟩ ?_ ?_ ?_
      · rintro i σ' H' hi ⟨x1, x2, rfl, hs, _⟩
        exact sq_of (hs _ _ hp)
      · rintro i x T σ' H1 H2 hi hxi ⟨x1, x2, rfl, hs, hb⟩ nT sT gT
        obtain ⟨o, ho, hok⟩ := paired_get hx hxi
        obtain ⟨w, l, r, a, b, h1, h2, h3, oa, ob, wa, wb, eo⟩ := hok.sm (hs.trans sT)
        repeat' (tm_at "rs")
        refine call_holds h1 h2 h3 ((hs.trans sT) _ _ hd) oa ob wa wb (fun H3 s3 => ?_)
        rw [← eo]
        cases ho2 : o with
        | true =>
          repeat' (tm_at "rs")
          refine ⟨_, _, rfl, hs.trans (sT.trans s3), fun c hc => ?_⟩
          rw [List.take_succ, ho, ho2] at hc
          rcases List.mem_append.mp hc with h | h
          · exact hb c h
          · exact List.mem_singleton.mp h
        | false =>
          rw [firstF_take ho hb ho2] at k
          repeat' (tm_at "rs")
          exact k _ (hs.trans (sT.trans s3))
      · rintro σ' H' ⟨x1, x2, rfl, hs, hb⟩
        rw [hxl, List.take_length] at hb
        rw [firstF_none hb] at k
        repeat' (tm_at "rs")
        exact k _ hs
    · refine .inr ?_
      repeat' (tm_at "rs")
      refine loopEt (xs := xs) (fun i σ' H' => ∃ (x1 x2 : Option V), σ' = [some (.ref p), some (.ref d), x1, x2] ∧ Sm H H' ∧ ∀ c ∈ bs.take i, c = true) ⟨_, _, rfl, Same.refl _, fun c h => by cases h⟩ ?_ ?_ ?_
      · rintro i σ' H' hi ⟨x1, x2, rfl, hs, _⟩
        exact st_of (hs _ _ hp)
      · rintro i x T σ' H1 H2 hi hxi ⟨x1, x2, rfl, hs, hb⟩ nT sT gT
        obtain ⟨o, ho, hok⟩ := paired_get hx hxi
        obtain ⟨w, l, r, a, b, h1, h2, h3, oa, ob, wa, wb, eo⟩ := hok.sm (hs.trans sT)
        repeat' (tm_at "rs")
        refine call_holds h1 h2 h3 ((hs.trans sT) _ _ hd) oa ob wa wb (fun H3 s3 => ?_)
        rw [← eo]
        cases ho2 : o with
        | true =>
          repeat' (tm_at "rs")
          refine ⟨_, _, rfl, hs.trans (sT.trans s3), fun c hc => ?_⟩
          rw [List.take_succ, ho, ho2] at hc
          rcases List.mem_append.mp hc with h | h
          · exact hb c h
          · exact List.mem_singleton.mp h
        | false =>
          rw [firstF_take ho hb ho2] at k
          repeat' (tm_at "rs")
          exact k _ (hs.trans (sT.trans s3))
      · rintro σ' H' ⟨x1, x2, rfl, hs, hb⟩
        rw [hxl, List.take_length] at hb
        rw [firstF_none hb] at k
        repeat' (tm_at "rs")
        exact k _ hs
/-! ### far_off -/
theorem ok_f_far_off {f : Addr} {fd : FuncData} (F : Fun K "far_off" "far_off" s_f_far_off f fd)
    (D_f_off : Def P w K mg base CX0 "off" 5 ["saying", "answer"] (sp_f_off K))
    (m_sum : mg "sum" = none) :
    FnG P w K mg base CX0 6 f fd ["sayings", "answer"] (sp_f_far_off K) := by
  refine okG F sc_f_far_off (fun vs H Q E h => ?_) (fun cdv A outer s H vs Q E hr h => ⟨_, (pss_one (ps_ret (pe_callBK (cr_sumK rfl) (by rfl) m_sum (by decide +kernel) (pa_cons (pe_lc (own := _) rfl sc_f_far_off.nd (pi_or (pi_gl (K := K) rfl (pv 0)) (pi_gt (K := K) rfl (pv 0))) (blkOk_by (own := [("saying", 2)]) (N := ["sayings", "answer", "saying"]) (sc := defScope s_f_far_off) (by decide +kernel)) (fun _ _ _ _ _ => (pg_name (i := 2) sc_f_far_off.nd rfl (by first | exact Or.inl rfl | exact Or.inr rfl))) (fun _ _ _ _ _ => pts_nil) (fun _ _ _ _ _ => (pe_f D_f_off (hr.mono (by omega)) (by rfl) pass0 (pa_cons (pv 2) (pa_cons (pv 1) pa_nil))))) pa_nil) (pk_cons pe_int pk_nil)))), ?_⟩)
  · obtain ⟨_, _, _, _, _, _, rfl, _⟩ := h
    rfl
  · obtain ⟨p, d, xs, ns, kvs, g, rfl, hp, hx, hd, hl, k⟩ := h
    try dsimp only [cxOf, Cx.nox, Cx.wish]
    change (_ : L2.TS) _ [some (.ref p), some (.ref d), none] _
    refine w_start ?_
    have hn : xs.length = ns.length := hx.length
    repeat' (tm_at "rs")
    rcases hp with hp | hp
    · refine .inl ?_
      repeat' (tm_at "rs")
      refine lcLs (xs := xs) (fun D i H' => Sm H H' ∧ H' D = some (.lst ((ns.take i).map V.int))) ?_ ?_ ?_ ?_
      · intro D H' nD sm hD
        exact ⟨sm, hD⟩
      · rintro D i H' nD hi ⟨sm, hD⟩
        exact sq_of (sm _ _ hp)
      · rintro D i x H' nD hi ⟨sm, hD⟩
        have hz : ((ns.take i).map V.int).length ≤ 1000 := by
          rw [List.length_map, List.length_take]
          omega
        obtain ⟨n, hn2, hf⟩ := pr_at hx hi
        obtain ⟨w, l, r, a, b, h1, h2, h3, h4, h5, h6, h7, rfl⟩ := hf.sm sm
        repeat' (tm_at "rs")
        refine call_off h1 h2 h3 (sm _ _ hd) h4 h5 h6 h7 (fun H3 s3 => ?_)
        have hD3 := s3 _ _ hD
        have sm3 := Same.trans sm s3
        repeat' (tm_at "rs")
        rename_i H4 k4 g4
        refine ⟨fun c o q => k4 c o (ne_of_none q nD) (sm3 _ _ q), ?_⟩
        rw [g4, List.take_succ, hn2, List.map_append]
        rfl
      · rintro D H' nD ⟨sm, hD⟩
        rw [hn, List.take_length] at hD
        repeat' (tm_at "rs")
        refine w_sumK (sq_of hD) ?_
        repeat' (tm_at "rs")
        exact k _ sm
    · refine .inr ?_
      repeat' (tm_at "rs")
      refine lcTp (xs := xs) (fun D i H' => Sm H H' ∧ H' D = some (.lst ((ns.take i).map V.int))) ?_ ?_ ?_ ?_
      · intro D H' nD sm hD
        exact ⟨sm, hD⟩
      · rintro D i H' nD hi ⟨sm, hD⟩
        exact st_of (sm _ _ hp)
      · rintro D i x H' nD hi ⟨sm, hD⟩
        have hz : ((ns.take i).map V.int).length ≤ 1000 := by
          rw [List.length_map, List.length_take]
          omega
        obtain ⟨n, hn2, hf⟩ := pr_at hx hi
        obtain ⟨w, l, r, a, b, h1, h2, h3, h4, h5, h6, h7, rfl⟩ := hf.sm sm
        repeat' (tm_at "rs")
        refine call_off h1 h2 h3 (sm _ _ hd) h4 h5 h6 h7 (fun H3 s3 => ?_)
        have hD3 := s3 _ _ hD
        have sm3 := Same.trans sm s3
        repeat' (tm_at "rs")
        rename_i H4 k4 g4
        refine ⟨fun c o q => k4 c o (ne_of_none q nD) (sm3 _ _ q), ?_⟩
        rw [g4, List.take_succ, hn2, List.map_append]
        rfl
      · rintro D H' nD ⟨sm, hD⟩
        rw [hn, List.take_length] at hD
        repeat' (tm_at "rs")
        refine w_sumK (sq_of hD) ?_
        repeat' (tm_at "rs")
        exact k _ sm
/-! ### Saying.__eq__ -/
theorem ok_f_Saying__eq {f : Addr} {fd : FuncData} (F : Fun K "__eq__" "Saying.__eq__" s_f_Saying__eq f fd) {C_Saying : Addr}
    (n_Saying : mg "Saying" = some (.ref C_Saying))
    (SC_Saying : ClsN K "Saying" C_Saying ["word", "left", "right"])
    (OC_Saying : ClsO K C_Saying)
    (m_isinstance : mg "isinstance" = none) :
    FnG P w K mg base CX0 1 f fd ["self", "other"] (sp_f_Saying__eq K) := by
  refine okG F sc_f_Saying__eq (fun vs H Q E h => ?_) (fun cdv A outer s H vs Q E hr h => ⟨_, (pss_cons (ps_if (pt_not (pt_val (pe_callB (call_gIsi (K := K) rfl) (by rfl) m_isinstance PyProof.Rows.boot_isinstance (pa_cons (pv 1) (pa_cons (pe_glob (v := .ref C_Saying) rfl n_Saying rfl) pa_nil))))) (pss_one (ps_ret pe_bl)) pss_nil)
    (pss_one (ps_ret (pe_cmpR (op_eqDD rfl hr.big) (pe_tup (pa_cons (pe_fld (pv 0) rfl) (pa_cons (pe_fld (pv 0) rfl) (pa_cons (pe_fld (pv 0) rfl) pa_nil)))) (pe_tup (pa_cons (pe_fld (pv 1) rfl) (pa_cons (pe_fld (pv 1) rfl) (pa_cons (pe_fld (pv 1) rfl) pa_nil)))) (nomark _))))), ?_⟩)
  · obtain ⟨_, _, _, _, _, _, _, _, _, rfl, _⟩ := h
    rfl
  · obtain ⟨a, b, w, l1, r1, l2, r2, x, y, rfl, ha, hb, x1, y1, x2, y2, lw, d1, d2, k⟩ := h
    try dsimp only [cxOf, Cx.nox, Cx.wish]
    change (_ : L2.TS) _ [some (.ref a), some (.ref b)] _
    refine w_start ?_
    obtain ⟨p2, C2, dx2, e2, c2, g2⟩ := id hb
    cases e2
    obtain rfl := sayc_eq c2 SC_Saying
    repeat' (tm_at "rs")
    refine w_isiOwn g2 c2.cl OC_Saying ?_
    repeat' (tm_at "rs")
    rename_i q1 H1 n1 s1 gq1 q2 H2 n2 s2 gq2
    refine w_eqSay (s2 _ _ gq1) gq2 (x1.sm (s1.trans s2)) (y1.sm (s1.trans s2)) (x2.sm (s1.trans s2)) (y2.sm (s1.trans s2)) lw d1 d2 ?_
    repeat' (tm_at "rs")
    exact k _ (s1.trans s2)
/-! ### _law_looking_right -/
theorem ok_f_law_looking_right {f : Addr} {fd : FuncData} (F : Fun K "_law_looking_right" "_law_looking_right" s_f_law_looking_right f fd) {C_Saying : Addr}
    (G_Saying : DefM P w K mg base CX0 "Saying" 1 ["self", "word", "left", "right"] (sp_f_Saying__init K) C_Saying)
    (SC_Saying : ClsN K "Saying" C_Saying ["word", "left", "right"])
    (M_Saying_eq : DefO P w K mg base CX0 C_Saying "__eq__" 1 ["self", "other"] (sp_f_Saying__eq K))
    (OC_Saying : ClsO K C_Saying)
    (DK_f_renamed_names_saying : DefK P w K mg base CX0 "renamed" 8 ["saying", "names"] ["names", "saying"] gk_f_renamed_names_saying (sp_f_renamed K))
    (DK_f_holds_answer_saying : DefK P w K mg base CX0 "holds" 5 ["saying", "answer"] ["answer", "saying"] gk_f_holds_answer_saying (sp_f_holds K))
    (DK_f_off_answer_saying : DefK P w K mg base CX0 "off" 5 ["saying", "answer"] ["answer", "saying"] gk_f_off_answer_saying (sp_f_off K))
    (DK_f_first_wrong_answer_sayings : DefK P w K mg base CX0 "first_wrong" 6 ["sayings", "answer"] ["answer", "sayings"] gk_f_first_wrong_answer_sayings (sp_f_first_wrong K))
    (DK_f_far_off_answer_sayings : DefK P w K mg base CX0 "far_off" 6 ["sayings", "answer"] ["answer", "sayings"] gk_f_far_off_answer_sayings (sp_f_far_off K))
    (m_int : mg "int" = none) :
    FnG P w K mg base CX0 9 f fd ["first", "second", "word"] (sp_f_law_looking_right K) := by
  refine okG F sc_f_law_looking_right (fun vs H Q E h => ?_) (fun cdv A outer s H vs Q E hr h => ⟨_, (pss_cons (ps_par (i := 3) (j := 4) rfl sc_f_law_looking_right.nd rfl rfl (by decide) rfl rfl (pa_cons (pe_mk G_Saying (hr.mono (by omega)) (by rfl) pass0 (pa_cons (pv 2) (pa_cons (pe_tup (pa_cons pe_str (pa_cons pe_str pa_nil))) (pa_cons (pe_tup (pa_cons pe_str (pa_cons pe_str pa_nil))) pa_nil)))) (pa_cons (pe_disp (pps_cons pe_str (pv 0) (pps_cons pe_str (pv 1) pps_nil)) (by rfl) (by rfl) (fun z => by cases z) (by decide)) pa_nil)) (by rfl))
    (pss_cons (ps_set (i := 5) sc_f_law_looking_right.nd rfl (by first | exact Or.inl rfl | exact Or.inr rfl) (pe_op op_sub (pv 0) (pv 1)))
    (pss_cons (ps_if (pt_cmpR (op_gEq (K := K) rfl hr.units) (pv 2) pe_str (nomark _)) (pss_one (ps_set (i := 5) sc_f_law_looking_right.nd rfl (by first | exact Or.inl rfl | exact Or.inr rfl) (pe_op op_sub (pv 0) (pe_op op_gAnd (pv 0) (pv 1))))) pss_nil)
    (pss_cons (ps_if (PW.pt (pw_or (pt_cmpR (op_gNe (K := K) rfl hr.units) (pe_fK0 DK_f_holds_answer_saying (hr.mono (by omega)) (by rfl) pass0 (pk_cons (pv 4) (pk_cons (pv 3) pk_nil))) (pe_cmpR (op_gEq (K := K) rfl hr.units) (pv 5) pe_int (nomark _)) (nomark _)) (pw_or1 (pt_cmpR (op_gNe (K := K) rfl hr.units) (pe_fK0 DK_f_off_answer_saying (hr.mono (by omega)) (by rfl) pass0 (pk_cons (pv 4) (pk_cons (pv 3) pk_nil))) (pe_op op_gMul (pv 5) (pv 5)) (nomark _))))) (pss_one (ps_ret pe_bl)) pss_nil)
    (pss_cons (ps_set (i := 6) sc_f_law_looking_right.nd rfl (by first | exact Or.inl rfl | exact Or.inr rfl) (pe_ix (ix_g (K := K) rfl) (pe_lst (pa_cons pe_int (pa_cons pe_non pa_nil))) (pe_callTy call_gInt (by rfl) m_int PyProof.Rows.boot_int (pa_cons (pe_cmpR (op_gEq (K := K) rfl hr.units) (pv 5) pe_int (nomark _)) pa_nil)) (fun _ _ => rfl)))
    (pss_cons (ps_if (PW.pt (pw_or (pt_cmpR (op_gNe (K := K) rfl hr.units) (pe_fK0 DK_f_first_wrong_answer_sayings (hr.mono (by omega)) (by rfl) pass0 (pk_cons (pv 4) (pk_cons (pe_lst (pa_cons (pv 3) pa_nil)) pk_nil))) (pv 6) (nomark _)) (pw_or1 (pt_cmpR (op_gNe (K := K) rfl hr.units) (pe_fK0 DK_f_far_off_answer_sayings (hr.mono (by omega)) (by rfl) pass0 (pk_cons (pv 4) (pk_cons (pe_lst (pa_cons (pv 3) pa_nil)) pk_nil))) (pe_op op_gMul (pv 5) (pv 5)) (nomark _))))) (pss_one (ps_ret pe_bl)) pss_nil)
    (pss_cons (ps_set (i := 7) sc_f_law_looking_right.nd rfl (by first | exact Or.inl rfl | exact Or.inr rfl) (pe_fK0 DK_f_renamed_names_saying (hr.mono (by omega)) (by rfl) pass0 (pk_cons (pe_disp (pps_cons pe_str pe_str pps_nil) (by rfl) (by rfl) (fun z => by cases z) (by decide)) (pk_cons (pv 3) pk_nil))))
    (pss_one (ps_ret (pe_cmpR (op_eqO M_Saying_eq (hr.mono (by omega)) pass0) (pv 7) (pe_mk G_Saying (hr.mono (by omega)) (by rfl) pass0 (pa_cons (pv 2) (pa_cons (pe_tup (pa_cons pe_str (pa_cons pe_str pa_nil))) (pa_cons (pe_tup (pa_cons pe_str (pa_cons pe_str pa_nil))) pa_nil)))) (nomark _))))))))))), ?_⟩)
  · obtain ⟨_, _, _, rfl, _⟩ := h
    rfl
  · obtain ⟨n, m, w, rfl, n1, m1, hw, k⟩ := h
    try dsimp only [cxOf, Cx.nox, Cx.wish]
    change (_ : L2.TS) _ [some (.int (n : Int)), some (.int (m : Int)), some (.str w), none, none, none, none, none] _
    refine w_start ?_
    repeat' (tm_at "rs")
    rename_i A HA nA sA gA B HB nB sB gB
    refine mk_say SC_Saying hw (fun z H1 nz sz hz => ?_)
    have tA : TmAt K H1 (.name "a") (.ref A) := tm_name (sz _ _ (sB _ _ gA))
    have tB : TmAt K H1 (.name "b") (.ref B) := tm_name (sz _ _ gB)
    clear gA gB nA nB
    repeat ((fail_if_success (with_reducible refine w_ifJ (fun _ _ => True) ?_ ?_)); tm_at "rs")
    rename_i d H2 nd s2 g2 H3 k3 g3
    have s13 : Sm H1 H3 := fun x o h => k3 x o (fun e => by rw [e, nd] at h; cases h) (s2 _ _ h)
    have hz3 := hz.sm s13
    have tA3 := tA.sm s13
    have tB3 := tB.sm s13
    have s03 : Sm H H3 := sA.trans (sB.trans (sz.trans s13))
    clear k3 s2 g2 sA sB sz
    let g : Str → Nat := fun s => if s = "a" then n else m
    have n40 : n < 2 ^ 40 := Nat.lt_of_le_of_lt n1 (by decide)
    have m40 : m < 2 ^ 40 := Nat.lt_of_le_of_lt m1 (by decide)
    have oA : TmOk [(Sum.inr (Str.ofString "a"), V.int (n : Int)), (Sum.inr (Str.ofString "b"), V.int (m : Int))] g (.name "a") := ⟨rfl, 40, n40, by decide⟩
    have oB : TmOk [(Sum.inr (Str.ofString "a"), V.int (n : Int)), (Sum.inr (Str.ofString "b"), V.int (m : Int))] g (.name "b") := ⟨rfl, 40, m40, by decide⟩
    have eA : ev g (.name "a") = n := rfl
    have eB : ev g (.name "b") = m := rfl
    refine w_ifJ (fun σ' H' => ∃ (R : Int) (x6 x7 : Option V), σ' = [some (.int (n : Int)), some (.int (m : Int)), some (.str w), some (.ref z), some (.ref d), some (.int R), x6, x7] ∧ H' = H3 ∧ (if w = "under" then decide (ev g (.name "a") &&& ev g (.name "b") = ev g (.name "a")) else decide (ev g (.name "a") = ev g (.name "b"))) = decide (R = 0) ∧ offI w (ev g (.name "a")) (ev g (.name "b")) = R * R ∧ R.natAbs < 2 ^ 10) ?_ ?_
    rotate_left
    · intro N kj
      have p10 : (2 : Nat) ^ 10 = 1024 := by decide
      repeat' (tm_at "rs")
      · rename_i e a ea a0 a1 a2
        have ha : a = ((n &&& m : Nat) : Int) := by rw [ea, and_nat]
        refine kj _ _ ⟨_, _, _, rfl, rfl, ?_, ?_, ?_⟩
        · rw [if_pos e, eA, eB]
          refine decide_eq_decide.mpr ?_
          omega
        · unfold offI stn
          rw [if_pos e, eA, eB, ha]
          have := @Nat.and_le_left n m
          rw [Int.ofNat_sub this]
        · omega
      · rename_i e
        refine kj _ _ ⟨_, _, _, rfl, rfl, ?_, ?_, ?_⟩
        · rw [if_neg e, eA, eB]
          refine decide_eq_decide.mpr ?_
          omega
        · unfold offI
          rw [if_neg e, eA, eB]
        · omega
    rintro σ' H' ⟨R, x6, x7, rfl, rfl, hR1, hR2, hR3⟩
    have cm : CM R R := .inr (mulx_ok (a := 10) (b := 10) hR3 hR3 (by decide))
    repeat' (tm_at "rs")
    refine call_holds hz3 tA3 tB3 g3 oA oB (by decide) (by decide) (fun H4 s4 => ?_)
    rw [hR1]
    have hz4 := hz3.sm s4
    have tA4 := tA3.sm s4
    have tB4 := tB3.sm s4
    have g4 := s4 _ _ g3
    repeat' (tm_at "rs")
    · rename_i hh; exact absurd rfl hh
    refine call_off hz4 tA4 tB4 g4 oA oB (by decide) (by decide) (fun H5 s5 => ?_)
    rw [hR2]
    have hz5 := hz4.sm s5
    have tA5 := tA4.sm s5
    have tB5 := tB4.sm s5
    have g5 := s5 _ _ g4
    repeat' (tm_at "rs")
    · rename_i hh; exact absurd rfl hh
    all_goals rename_i hx1 hx2 L H6 n6 s6 g6 hR M H7 n7 s7 g7
    all_goals have s57 := s6.trans s7
    all_goals have hz7 := hz5.sm s57
    all_goals have tA7 := tA5.sm s57
    all_goals have tB7 := tB5.sm s57
    all_goals have g57 := s57 _ _ g5
    all_goals refine call_firstWrong (xs := [.ref z]) (bs := [decide (R = 0)]) (.inl g7) (.cons ⟨w, _, _, _, _, hz7, tA7, tB7, oA, oB, by decide, by decide, hR1.symm⟩ .nil) g57 (fun H8 s8 => ?_)
    · rw [show natV (firstF [decide (R = 0)]) = V.non by rw [hR]; rfl]
      repeat' (tm_at "rs")
      refine w_neSame .non .non (by decide) ?_
      repeat' (tm_at "rs")
      rename_i M9 H9 n9 s9 g9
      have s79 := s8.trans s9
      have hz9 := hz7.sm s79
      have tA9 := tA7.sm s79
      have tB9 := tB7.sm s79
      have s09 := s03.trans (s4.trans (s5.trans (s57.trans s79)))
      refine call_far (xs := [.ref z]) (ns := [R * R]) (.inl g9) (.cons ⟨w, _, _, _, _, hz9, tA9, tB9, oA, oB, by decide, by decide, hR2.symm⟩ .nil) (s79 _ _ g57) (by show 1 ≤ 200; omega) (fun Ha sa => ?_)
      rw [show [R * R].sum = R * R by simp]
      clear g57 g5 g4 g9 g7 g6
      repeat' (tm_at "rs")
      · rename_i hh; exact absurd rfl hh
      rename_i hrr D Hb nb sb gb Hc kc gc
      have sac : Sm Ha Hc := fun x o h => kc x o (fun e => by rw [e, nb] at h; cases h) (sb _ _ h)
      have hcd : TxD [((Sum.inr (Str.ofString "a") : Key), V.str (Str.ofString "c"))] := ⟨by simp, fun p hp => by
        rw [List.mem_singleton.mp hp]
        exact ⟨_, _, rfl, ⟨by decide +kernel, by decide⟩, ⟨by decide +kernel, by decide⟩⟩⟩
      have lA : (Tm.name "a").led [((Sum.inr (Str.ofString "a") : Key), V.str (Str.ofString "c"))] = .name "c" := rfl
      have lB : (Tm.name "b").led [((Sum.inr (Str.ofString "a") : Key), V.str (Str.ofString "c"))] = .name "b" := rfl
      refine call_renamed (hz9.sm (sa.trans sac)) (tA9.sm (sa.trans sac)) (tB9.sm (sa.trans sac)) hw gc hcd trivial trivial (by decide) (by decide) (fun q ql qr Hd sd hq tq1 tq2 => ?_)
      rw [lA] at tq1
      rw [lB] at tq2
      obtain ⟨q1, _, _, rfl, _⟩ := id hq
      repeat' (tm_at "rs")
      rename_i E1 He ne se ge E2 Hf nf sf gf
      refine mk_say SC_Saying hw (fun z2 Hg ng sg hg2 => ?_)
      have tE1 : TmAt K Hg (.name "c") (.ref E1) := tm_name (sg _ _ (sf _ _ ge))
      have tE2 : TmAt K Hg (.name "b") (.ref E2) := tm_name (sg _ _ gf)
      have sdg := se.trans (sf.trans sg)
      repeat' (tm_at "rs")
      refine eq_say SC_Saying (hq.sm sdg) hg2 (tq1.sm sdg) (tq2.sm sdg) tE1 tE2 ⟨by rcases hw with rfl | rfl <;> decide +kernel, (show PyData.strOk (Str.ofString "c") = true by decide +kernel), (show PyData.strOk (Str.ofString "b") = true by decide +kernel)⟩ (by decide) (by decide) (fun Hh sh => ?_)
      repeat' (tm_at "rs")
      exact k _ (s09.trans (sa.trans (sac.trans (sd.trans (sdg.trans sh)))))
    · rw [decide_eq_false hR, show natV (firstF [false]) = V.int (0 : Nat) from rfl]
      repeat' (tm_at "rs")
      rename_i M9 H9 n9 s9 g9
      have s79 := s8.trans s9
      have hz9 := hz7.sm s79
      have tA9 := tA7.sm s79
      have tB9 := tB7.sm s79
      have s09 := s03.trans (s4.trans (s5.trans (s57.trans s79)))
      refine call_far (xs := [.ref z]) (ns := [R * R]) (.inl g9) (.cons ⟨w, _, _, _, _, hz9, tA9, tB9, oA, oB, by decide, by decide, hR2.symm⟩ .nil) (s79 _ _ g57) (by show 1 ≤ 200; omega) (fun Ha sa => ?_)
      rw [show [R * R].sum = R * R by simp]
      clear g57 g5 g4 g9 g7 g6
      repeat' (tm_at "rs")
      · rename_i hh; exact absurd rfl hh
      rename_i hrr D Hb nb sb gb Hc kc gc
      have sac : Sm Ha Hc := fun x o h => kc x o (fun e => by rw [e, nb] at h; cases h) (sb _ _ h)
      have hcd : TxD [((Sum.inr (Str.ofString "a") : Key), V.str (Str.ofString "c"))] := ⟨by simp, fun p hp => by
        rw [List.mem_singleton.mp hp]
        exact ⟨_, _, rfl, ⟨by decide +kernel, by decide⟩, ⟨by decide +kernel, by decide⟩⟩⟩
      have lA : (Tm.name "a").led [((Sum.inr (Str.ofString "a") : Key), V.str (Str.ofString "c"))] = .name "c" := rfl
      have lB : (Tm.name "b").led [((Sum.inr (Str.ofString "a") : Key), V.str (Str.ofString "c"))] = .name "b" := rfl
      refine call_renamed (hz9.sm (sa.trans sac)) (tA9.sm (sa.trans sac)) (tB9.sm (sa.trans sac)) hw gc hcd trivial trivial (by decide) (by decide) (fun q ql qr Hd sd hq tq1 tq2 => ?_)
      rw [lA] at tq1
      rw [lB] at tq2
      obtain ⟨q1, _, _, rfl, _⟩ := id hq
      repeat' (tm_at "rs")
      rename_i E1 He ne se ge E2 Hf nf sf gf
      refine mk_say SC_Saying hw (fun z2 Hg ng sg hg2 => ?_)
      have tE1 : TmAt K Hg (.name "c") (.ref E1) := tm_name (sg _ _ (sf _ _ ge))
      have tE2 : TmAt K Hg (.name "b") (.ref E2) := tm_name (sg _ _ gf)
      have sdg := se.trans (sf.trans sg)
      repeat' (tm_at "rs")
      refine eq_say SC_Saying (hq.sm sdg) hg2 (tq1.sm sdg) (tq2.sm sdg) tE1 tE2 ⟨by rcases hw with rfl | rfl <;> decide +kernel, (show PyData.strOk (Str.ofString "c") = true by decide +kernel), (show PyData.strOk (Str.ofString "b") = true by decide +kernel)⟩ (by decide) (by decide) (fun Hh sh => ?_)
      repeat' (tm_at "rs")
      exact k _ (s09.trans (sa.trans (sac.trans (sd.trans (sdg.trans sh)))))
/-! ### law -/
theorem ok_f_law {f : Addr} {fd : FuncData} (F : Fun K "law" "law" s_f_law f fd) {C_Saying : Addr}
    (D_f_law_box : Def P w K mg base CX0 "_law_box" 1 ["script", "at"] (sp_f_law_box K))
    (D_f_law_take : Def P w K mg base CX0 "_law_take" 1 ["box", "wide"] (sp_f_law_take K))
    (G_Saying : DefM P w K mg base CX0 "Saying" 1 ["self", "word", "left", "right"] (sp_f_Saying__init K) C_Saying)
    (SC_Saying : ClsN K "Saying" C_Saying ["word", "left", "right"])
    (D_f_either : Def P w K mg base CX0 "either" 3 ["one", "other"] (sp_f_either K))
    (D_f_made_one : Def P w K mg base CX0 "made_one" 3 ["sayings"] (sp_f_made_one K))
    (D_f_law_figures_right : Def P w K mg base CX0 "_law_figures_right" 3 ["whole", "wide", "count"] (sp_f_law_figures_right K))
    (D_f_law_bits_right : Def P w K mg base CX0 "_law_bits_right" 2 ["first", "second"] (sp_f_law_bits_right K))
    (D_f_law_choosing_right : Def P w K mg base CX0 "_law_choosing_right" 3 ["first", "second"] (sp_f_law_choosing_right K))
    (D_f_law_looking_right : Def P w K mg base CX0 "_law_looking_right" 9 ["first", "second", "word"] (sp_f_law_looking_right K))
    (M_Saying_eq : DefO P w K mg base CX0 C_Saying "__eq__" 1 ["self", "other"] (sp_f_Saying__eq K))
    (OC_Saying : ClsO K C_Saying)
    (DK_f_either_other_one : DefK P w K mg base CX0 "either" 3 ["one", "other"] ["other", "one"] gk_f_either_other_one (sp_f_either K))
    (DK_f_made_one_sayings : DefK P w K mg base CX0 "made_one" 3 ["sayings"] ["sayings"] gk_f_made_one_sayings (sp_f_made_one K))
    (m_range : mg "range" = none)
    (m_max : mg "max" = none)
    (m_min : mg "min" = none)
    (m_len : mg "len" = none) :
    FnG P w K mg base CX0 10 f fd ["script"] (sp_f_law K) := by
  refine okG F sc_f_law (fun vs H Q E h => ?_) (fun cdv A outer s H vs Q E hr h => ⟨_, (pss_cons (ps_for PassesOwn.never rfl (pi_range1 (by rfl) m_range (pa_cons (pe_callB (call_gMax rfl) (by rfl) m_max (by decide +kernel) (pa_cons pe_int (pa_cons (pe_callB (call_gMin rfl) (by rfl) m_min (by decide +kernel) (pa_cons pe_int (pa_cons (pe_callB (call_gLen (K := K) rfl) (by rfl) m_len PySem.boot_len (pa_cons (pv 0) pa_nil)) pa_nil))) pa_nil))) pa_nil)) (pg_name (i := 1) sc_f_law.nd rfl (by first | exact Or.inl rfl | exact Or.inr rfl)) (pss_cons (ps_set (i := 2) sc_f_law.nd rfl (by first | exact Or.inl rfl | exact Or.inr rfl) (pe_f D_f_law_box (hr.mono (by omega)) (by rfl) pass0 (pa_cons (pv 0) (pa_cons (pv 1) pa_nil))))
    (pss_cons (ps_par3 (i := 3) (j := 4) (l := 5) rfl sc_f_law.nd rfl rfl rfl (by decide) (by decide) (by decide) rfl rfl rfl (pa_cons (pe_f D_f_law_take (hr.mono (by omega)) (by rfl) pass0 (pa_cons (pv 2) (pa_cons pe_int pa_nil))) (pa_cons (pe_op (op_gAdd (K := K) rfl) pe_int (pe_f D_f_law_take (hr.mono (by omega)) (by rfl) pass0 (pa_cons (pv 2) (pa_cons pe_int pa_nil)))) (pa_cons (pe_f D_f_law_take (hr.mono (by omega)) (by rfl) pass0 (pa_cons (pv 2) (pa_cons pe_int pa_nil))) pa_nil))) (by rfl))
    (pss_cons (ps_par3 (i := 6) (j := 7) (l := 8) rfl sc_f_law.nd rfl rfl rfl (by decide) (by decide) (by decide) rfl rfl rfl (pa_cons (pe_f D_f_law_take (hr.mono (by omega)) (by rfl) pass0 (pa_cons (pv 2) (pa_cons pe_int pa_nil))) (pa_cons (pe_f D_f_law_take (hr.mono (by omega)) (by rfl) pass0 (pa_cons (pv 2) (pa_cons pe_int pa_nil))) (pa_cons (pe_ix (ix_g (K := K) rfl) (pe_lst (pa_cons pe_str (pa_cons pe_str pa_nil))) (pe_f D_f_law_take (hr.mono (by omega)) (by rfl) pass0 (pa_cons (pv 2) (pa_cons pe_int pa_nil))) (fun _ _ => rfl)) pa_nil))) (by rfl))
    (pss_cons (ps_if (PW.pt (pw_or (pt_not (pt_val (pe_f D_f_law_figures_right (hr.mono (by omega)) (by rfl) pass0 (pa_cons (pv 3) (pa_cons (pv 4) (pa_cons (pv 5) pa_nil)))))) (pw_or1 (pt_not (pt_val (pe_f D_f_law_bits_right (hr.mono (by omega)) (by rfl) pass0 (pa_cons (pv 6) (pa_cons (pv 7) pa_nil)))))))) (pss_one (ps_ret pe_bl)) pss_nil)
    (pss_cons (ps_if (PW.pt (pw_or (pt_not (pt_val (pe_f D_f_law_choosing_right (hr.mono (by omega)) (by rfl) pass0 (pa_cons (pv 6) (pa_cons (pv 7) pa_nil))))) (pw_or1 (pt_not (pt_val (pe_f D_f_law_looking_right (hr.mono (by omega)) (by rfl) pass0 (pa_cons (pv 6) (pa_cons (pv 7) (pa_cons (pv 8) pa_nil))))))))) (pss_one (ps_ret pe_bl)) pss_nil)
    (pss_cons (ps_par (i := 9) (j := 10) rfl sc_f_law.nd rfl rfl (by decide) rfl rfl (pa_cons (pe_mk G_Saying (hr.mono (by omega)) (by rfl) pass0 (pa_cons pe_str (pa_cons (pe_tup (pa_cons pe_str (pa_cons (pv 6) pa_nil))) (pa_cons (pe_tup (pa_cons pe_str (pa_cons pe_str pa_nil))) pa_nil)))) (pa_cons (pe_mk G_Saying (hr.mono (by omega)) (by rfl) pass0 (pa_cons pe_str (pa_cons (pe_tup (pa_cons pe_str (pa_cons pe_str pa_nil))) (pa_cons (pe_tup (pa_cons pe_str (pa_cons (pv 7) pa_nil))) pa_nil)))) pa_nil)) (by rfl))
    (pss_cons (ps_if (pt_cmpR (op_neO M_Saying_eq OC_Saying.ne OC_Saying.mo (hr.mono (by omega)) pass0) (pe_fK0 DK_f_either_other_one (hr.mono (by omega)) (by rfl) pass0 (pk_cons (pv 10) (pk_cons (pv 9) pk_nil))) (pe_f D_f_either (hr.mono (by omega)) (by rfl) pass0 (pa_cons (pv 9) (pa_cons (pv 10) pa_nil))) (nomark _)) (pss_one (ps_ret pe_bl)) pss_nil)
    (pss_one (ps_if (pt_cmpR (op_neO M_Saying_eq OC_Saying.ne OC_Saying.mo (hr.mono (by omega)) pass0) (pe_fK0 DK_f_made_one_sayings (hr.mono (by omega)) (by rfl) pass0 (pk_cons (pe_lst (pa_cons (pv 9) (pa_cons (pv 10) pa_nil))) pk_nil)) (pe_f D_f_made_one (hr.mono (by omega)) (by rfl) pass0 (pa_cons (pe_lst (pa_cons (pv 9) (pa_cons (pv 10) pa_nil))) pa_nil)) (nomark _)) (pss_one (ps_ret pe_bl)) pss_nil))))))))))
    (pss_one (ps_ret pe_bl))), ?_⟩)
  · obtain ⟨_, _, rfl, _⟩ := h
    rfl
  · obtain ⟨a, ns, rfl, hS, hlen, k⟩ := h
    try dsimp only [cxOf, Cx.nox, Cx.wish]
    change (_ : L2.TS) _ [some (.ref a), none, none, none, none, none, none, none, none, none, none] _
    refine w_start ?_
    have hl0 : (ns.map V.int).length ≤ 63 := by rw [List.length_map]; exact hlen
    repeat' (tm_at "rs")
    refine loopR (fun i σ' H' => ∃ (x1 x2 x3 x4 x5 x6 x7 x8 x9 x10 : Option V), σ' = [some (.ref a), x1, x2, x3, x4, x5, x6, x7, x8, x9, x10] ∧ SqF K H' a (ns.map V.int)) ?_ ?_ ?_
    · exact ⟨_, _, _, _, _, _, _, _, _, _, rfl, hS⟩
    · rintro i σ' H0 hi ⟨x1, x2, x3, x4, x5, x6, x7, x8, x9, x10, rfl, hS2⟩
      repeat' (tm_at "rs")
      rename_i b Ha nb sa ba xw H1 xw0 xw1 k1 b1 ww H2 ww0 ww1 k2 b2 ct H3 ct0 ct1 k3 b3 n H4 n0 n1 k4 b4 m H5 m0 m1 k5 b5 wl H6 nwl swl gwl wi H7 w0 w1 k7 b7
      have hS7 : SqF K H7 a (ns.map V.int) := by tm_at "rsf"
      have gwl2 : H7 wl = some (.lst (([Str.ofString "same", Str.ofString "under"] : List Str).map V.str)) := k7 _ _ (ne_newB nwl b5) gwl
      refine w_ixStrs (sq_of gwl2) w0 (by show wi < 2; omega) (fun wd hwd => ?_)
      have hww : wd = "same" ∨ wd = "under" := by
        simp only [List.mem_cons, List.not_mem_nil, or_false] at hwd
        exact hwd
      obtain ⟨n, rfl⟩ := Int.eq_ofNat_of_zero_le n0
      obtain ⟨m, rfl⟩ := Int.eq_ofNat_of_zero_le m0
      clear hS2 gwl gwl2 sa k1 k2 k3 k4 k5 k7 swl nb nwl
      repeat' (tm_at "rs")
      refine call_figRight xw0 (by omega) (by omega) ct0 (by omega) xw1 (fun H8 s8 => ?_)
      repeat' (tm_at "rs")
      refine call_bitsRight (by omega) (by omega) (fun H9 s9 => ?_)
      repeat' (tm_at "rs")
      refine call_choosingRight (by omega) (by omega) (fun H10 s10 => ?_)
      repeat' (tm_at "rs")
      refine call_lookRight (by omega) (by omega) hww (fun H11 s11 => ?_)
      have hS11 : SqF K H11 a (ns.map V.int) := hS7.sm (s8.trans (s9.trans (s10.trans s11)))
      clear hS7 s8 s9 s10 s11
      repeat' (tm_at "rs")
      rename_i A HA nA sA gA B HB nB sB gB
      refine mk_say SC_Saying (.inl rfl) (fun u H12 nu su hu => ?_)
      have tA : TmAt K H12 (.num n) (.ref A) := tm_num (su _ _ (sB _ _ gA))
      have tB : TmAt K H12 (.name "a") (.ref B) := tm_name (su _ _ gB)
      have hS12 : SqF K H12 a (ns.map V.int) := hS11.sm (sA.trans (sB.trans su))
      clear hS11 sA sB su gA gB nA nB
      repeat' (tm_at "rs")
      rename_i C HC nC sC gC D HD nD sD gD
      refine mk_say SC_Saying (.inl rfl) (fun v H13 nv sv hv => ?_)
      have tC : TmAt K H13 (.name "b") (.ref C) := tm_name (sv _ _ (sD _ _ gC))
      have tD : TmAt K H13 (.num m) (.ref D) := tm_num (sv _ _ gD)
      have s23 := sC.trans (sD.trans sv)
      have hU : SayT K H13 (.ref u) (.num n, .name "a") := ⟨_, _, hu.sm s23, tA.sm s23, tB.sm s23⟩
      have hV : SayT K H13 (.ref v) (.name "b", .num m) := ⟨_, _, hv, tC, tD⟩
      have hS13 := hS12.sm s23
      clear hS12 sC sD sv gC gD nC nD tA tB tC tD s23
      repeat' (tm_at "rs")
      refine call_either hU hV (fun q1 H14 s14 e1 => ?_)
      repeat' (tm_at "rs")
      refine call_either (hU.sm s14) (hV.sm s14) (fun q2 H15 s15 e2 => ?_)
      repeat' (tm_at "rs")
      have dU : D69 (.num n, .name "a") := (d69_ni (by omega) ⟨by decide +kernel, by decide⟩).1
      have dV : D69 (.name "b", .num m) := (d69_ni (by omega) ⟨by decide +kernel, by decide⟩).2
      obtain ⟨hX, hd1, hd2⟩ := d69_eu dU dV
      have e1 : SayT K H14 q1 (eiT (.num n, .name "a") (.name "b", .num m)) := e1
      have e2 : SayT K H15 q2 (eiT (.num n, .name "a") (.name "b", .num m)) := e2
      refine ne_sayU SC_Saying (e1.sm s15) e2 hX.l hd1 hd2 (fun H16 s16 => ?_)
      have s36 := s14.trans (s15.trans s16)
      have hU6 := hU.sm s36
      have hV6 := hV.sm s36
      have hS16 := hS13.sm s36
      clear e1 e2 s14 s15 s16 s36 hU hV hS13
      repeat' (tm_at "rs")
      rename_i L1 H17 n17 s17 g17
      have hd : ∀ ab ∈ [((Tm.num n, Tm.name "a") : Tm × Tm), (.name "b", .num m)], D69 ab := fun ab h => by
        simp only [List.mem_cons, List.not_mem_nil, or_false] at h
        rcases h with rfl | rfl
        · exact dU
        · exact dV
      refine call_madeOne (xs := [.ref u, .ref v]) (abs := [(.num n, .name "a"), (.name "b", .num m)]) (.inl g17) (.cons (hU6.sm s17) (.cons (hV6.sm s17) .nil)) (by show 2 ≤ 200; omega) (fun q3 H18 s18 e3 => ?_)
      repeat' (tm_at "rs")
      rename_i L2 H19 n19 s19 g19
      have s69 := s17.trans (s18.trans s19)
      refine call_madeOne (xs := [.ref u, .ref v]) (abs := [(.num n, .name "a"), (.name "b", .num m)]) (.inl g19) (.cons (hU6.sm s69) (.cons (hV6.sm s69) .nil)) (by show 2 ≤ 200; omega) (fun q4 H20 s20 e4 => ?_)
      have hX2 := d69_X hd
      have hdp := d69_dep hd (by show 2 ≤ 100; omega)
      repeat' (tm_at "rs")
      refine ne_sayU SC_Saying (e3.sm (s19.trans s20)) e4 hX2.l hdp.1 hdp.2 (fun H21 s21 => ?_)
      repeat' (tm_at "rs")
      exact ⟨_, _, _, _, _, _, _, _, _, _, rfl, hS16.sm (s69.trans (s20.trans s21))⟩
    · rintro σ' H0 ⟨x1, x2, x3, x4, x5, x6, x7, x8, x9, x10, rfl, hS2⟩
      repeat' (tm_at "rs")
      exact k _
end
theorem all_mk {l : PySem.W.OpenLaw} {w : World} {K : PySem.W.Frag} {h : Heap} {mg : Str → Option Value} {fa : Addr} (X : K.In h) (G : h.Ns mainGlobals mg) (hfa : mg "law" = some (.ref fa))
    {f0 : Addr} {od0 an0 : Option Addr} {sl0 : Array (Option Value)} {oc0 kV0 dc0 pm0 cd0 ct0 : Value}
    {f1 : Addr} {od1 an1 : Option Addr} {sl1 : Array (Option Value)} {oc1 kV1 dc1 pm1 cd1 ct1 : Value}
    {f2 : Addr} {od2 an2 : Option Addr} {sl2 : Array (Option Value)} {oc2 kV2 dc2 pm2 cd2 ct2 : Value}
    {f3 : Addr} {od3 an3 : Option Addr} {sl3 : Array (Option Value)} {oc3 kV3 dc3 pm3 cd3 ct3 : Value}
    {f4 : Addr} {od4 an4 : Option Addr} {sl4 : Array (Option Value)} {oc4 kV4 dc4 pm4 cd4 ct4 : Value}
    {f5 : Addr} {od5 an5 : Option Addr} {sl5 : Array (Option Value)} {oc5 kV5 dc5 pm5 cd5 ct5 : Value}
    {f6 : Addr} {od6 an6 : Option Addr} {sl6 : Array (Option Value)} {oc6 kV6 dc6 pm6 cd6 ct6 : Value}
    {f7 : Addr} {od7 an7 : Option Addr} {sl7 : Array (Option Value)} {oc7 kV7 dc7 pm7 cd7 ct7 : Value}
    {f8 : Addr} {od8 an8 : Option Addr} {sl8 : Array (Option Value)} {oc8 kV8 dc8 pm8 cd8 ct8 : Value}
    {f9 : Addr} {od9 an9 : Option Addr} {sl9 : Array (Option Value)} {oc9 kV9 dc9 pm9 cd9 ct9 : Value}
    {f10 : Addr} {od10 an10 : Option Addr} {sl10 : Array (Option Value)} {oc10 kV10 dc10 pm10 cd10 ct10 : Value}
    {f11 : Addr} {od11 an11 : Option Addr} {sl11 : Array (Option Value)} {oc11 kV11 dc11 pm11 cd11 ct11 : Value}
    {f12 : Addr} {od12 an12 : Option Addr} {sl12 : Array (Option Value)} {oc12 kV12 dc12 pm12 cd12 ct12 : Value}
    {f13 : Addr} {od13 an13 : Option Addr} {sl13 : Array (Option Value)} {oc13 kV13 dc13 pm13 cd13 ct13 : Value}
    {f14 : Addr} {od14 an14 : Option Addr} {sl14 : Array (Option Value)} {oc14 kV14 dc14 pm14 cd14 ct14 : Value}
    {f15 : Addr} {od15 an15 : Option Addr} {sl15 : Array (Option Value)} {oc15 kV15 dc15 pm15 cd15 ct15 : Value}
    {f16 : Addr} {od16 an16 : Option Addr} {sl16 : Array (Option Value)} {oc16 kV16 dc16 pm16 cd16 ct16 : Value}
    {f17 : Addr} {od17 an17 : Option Addr} {sl17 : Array (Option Value)} {oc17 kV17 dc17 pm17 cd17 ct17 : Value}
    {f18 : Addr} {od18 an18 : Option Addr} {sl18 : Array (Option Value)} {oc18 kV18 dc18 pm18 cd18 ct18 : Value}
    {f19 : Addr} {od19 an19 : Option Addr} {sl19 : Array (Option Value)} {oc19 kV19 dc19 pm19 cd19 ct19 : Value}
    {f20 : Addr} {od20 an20 : Option Addr} {sl20 : Array (Option Value)} {oc20 kV20 dc20 pm20 cd20 ct20 : Value}
    {f21 : Addr} {od21 an21 : Option Addr} {sl21 : Array (Option Value)} {oc21 kV21 dc21 pm21 cd21 ct21 : Value}
    {f22 : Addr} {od22 an22 : Option Addr} {sl22 : Array (Option Value)} {oc22 kV22 dc22 pm22 cd22 ct22 : Value}
    {f23 : Addr} {od23 an23 : Option Addr} {sl23 : Array (Option Value)} {oc23 kV23 dc23 pm23 cd23 ct23 : Value}
    {f24 : Addr} {od24 an24 : Option Addr} {sl24 : Array (Option Value)} {oc24 kV24 dc24 pm24 cd24 ct24 : Value}
    {f25 : Addr} {od25 an25 : Option Addr} {sl25 : Array (Option Value)} {oc25 kV25 dc25 pm25 cd25 ct25 : Value}
    {f26 : Addr} {od26 an26 : Option Addr} {sl26 : Array (Option Value)} {oc26 kV26 dc26 pm26 cd26 ct26 : Value}
    {f27 : Addr} {od27 an27 : Option Addr} {sl27 : Array (Option Value)} {oc27 kV27 dc27 pm27 cd27 ct27 : Value}
    {f28 : Addr} {od28 an28 : Option Addr} {sl28 : Array (Option Value)} {oc28 kV28 dc28 pm28 cd28 ct28 : Value}
    {f29 : Addr} {od29 an29 : Option Addr} {sl29 : Array (Option Value)} {oc29 kV29 dc29 pm29 cd29 ct29 : Value}
    {f30 : Addr} {od30 an30 : Option Addr} {sl30 : Array (Option Value)} {oc30 kV30 dc30 pm30 cd30 ct30 : Value}
    {f31 : Addr} {od31 an31 : Option Addr} {sl31 : Array (Option Value)} {oc31 kV31 dc31 pm31 cd31 ct31 : Value}
    {f32 : Addr} {od32 an32 : Option Addr} {sl32 : Array (Option Value)} {oc32 kV32 dc32 pm32 cd32 ct32 : Value}
    {f33 : Addr} {od33 an33 : Option Addr} {sl33 : Array (Option Value)} {oc33 kV33 dc33 pm33 cd33 ct33 : Value}
    {f34 : Addr} {od34 an34 : Option Addr} {sl34 : Array (Option Value)} {oc34 kV34 dc34 pm34 cd34 ct34 : Value}
    {f35 : Addr} {od35 an35 : Option Addr} {sl35 : Array (Option Value)} {oc35 kV35 dc35 pm35 cd35 ct35 : Value}
    {f36 : Addr} {od36 an36 : Option Addr} {sl36 : Array (Option Value)} {oc36 kV36 dc36 pm36 cd36 ct36 : Value}
    {f37 : Addr} {od37 an37 : Option Addr} {sl37 : Array (Option Value)} {oc37 kV37 dc37 pm37 cd37 ct37 : Value}
    {f38 : Addr} {od38 an38 : Option Addr} {sl38 : Array (Option Value)} {oc38 kV38 dc38 pm38 cd38 ct38 : Value}
    {f39 : Addr} {od39 an39 : Option Addr} {sl39 : Array (Option Value)} {oc39 kV39 dc39 pm39 cd39 ct39 : Value}
    {C_Saying : Addr}
    {a_WORDS : Addr} {es_WORDS : Array DictEntry} {n_WORDS : Nat} {tv_WORDS_0 : Tok} {tv_WORDS_1 : Tok}
    {a_TWO : Addr} {to_TWO : Option Addr} {ti_TWO : Array Value} {tn_TWO : Nat} {ts_TWO : Array (Option Value)}
    {t_MOST_BITS : Tok}
    (g_Saying : PySem.W.nsIn K mainGlobals "Saying" = some (some (.ref C_Saying)))
    (mk_Saying : PySem.W.makesIn K C_Saying = true)
    (kc_Saying : PySem.W.keepIn K (.ref C_Saying) = true)
    (pg_Saying : PySem.W.plainGet K C_Saying Str.empty = true)
    (hd_Saying : PySem.W.hasDictIn K C_Saying = true)
    (po_Saying : PySem.W.plainOver K C_Saying = true)
    (sa_Saying : PySem.W.findIn K (.ref C_Saying) "__setattr__" = some (some (.builtin "object.__setattr__")))
    (o1_Saying : PySem.W.findIn K (.ref C_Saying) "__ne__" = some (some (.builtin "object.__ne__")))
    (o2_Saying : PySem.W.mroIn K C_Saying (.type "object") = some true)
    (o3_Saying : PySem.W.findIn K (.ref C_Saying) "__class__" = some (some (.builtin "object.__class__")))
    (o6_Saying : PySem.W.kitOne K (.ref C_Saying) (.ref C_Saying) = some true)
    (na_Saying_word : PySem.W.findIn K (.ref C_Saying) "word" = some none)
    (na_Saying_left : PySem.W.findIn K (.ref C_Saying) "left" = some none)
    (na_Saying_right : PySem.W.findIn K (.ref C_Saying) "right" = some none)
    (o4 : PySem.W.specialIn K (.builtin "object.__class__") "__get__" = some (some (.builtin "getset_descriptor.__get__")))
    (o5 : PySem.W.takesIn K (.builtin "object.__class__") = some true)
    (a0 : PySem.W.nsIn K mainGlobals "_law_box" = some (some (.ref f0)))
    (l0 : K.lookup f0 = some ⟨oc0, od0, .func (PySem.W.fnOf "_law_box" "_law_box" (defArgs s_f_law_box) (defBody s_f_law_box) (defScope s_f_law_box) .none kV0 dc0 pm0 an0 cd0 ct0), sl0⟩)
    (c0 : PySem.W.codeIn K cd0 "_law_box" = true)
    (k0 : PySem.W.keepIn K (.ref f0) = true)
    (a1 : PySem.W.nsIn K mainGlobals "_law_take" = some (some (.ref f1)))
    (l1 : K.lookup f1 = some ⟨oc1, od1, .func (PySem.W.fnOf "_law_take" "_law_take" (defArgs s_f_law_take) (defBody s_f_law_take) (defScope s_f_law_take) .none kV1 dc1 pm1 an1 cd1 ct1), sl1⟩)
    (c1 : PySem.W.codeIn K cd1 "_law_take" = true)
    (k1 : PySem.W.keepIn K (.ref f1) = true)
    (a2 : PySem.W.findIn K (.ref C_Saying) "__init__" = some (some (.ref f2)))
    (i2 : PySem.W.isFn K (.ref f2) = true)
    (l2 : K.lookup f2 = some ⟨oc2, od2, .func (PySem.W.fnOf "__init__" "Saying.__init__" (defArgs s_f_Saying__init) (defBody s_f_Saying__init) (defScope s_f_Saying__init) .none kV2 dc2 pm2 an2 cd2 ct2), sl2⟩)
    (c2 : PySem.W.codeIn K cd2 "Saying.__init__" = true)
    (k2 : PySem.W.keepIn K (.ref f2) = true)
    (a3 : PySem.W.nsIn K mainGlobals "need_same" = some (some (.ref f3)))
    (l3 : K.lookup f3 = some ⟨oc3, od3, .func (PySem.W.fnOf "need_same" "need_same" (defArgs s_f_need_same) (defBody s_f_need_same) (defScope s_f_need_same) .none kV3 dc3 pm3 an3 cd3 ct3), sl3⟩)
    (c3 : PySem.W.codeIn K cd3 "need_same" = true)
    (k3 : PySem.W.keepIn K (.ref f3) = true)
    (a4 : PySem.W.nsIn K mainGlobals "either" = some (some (.ref f4)))
    (l4 : K.lookup f4 = some ⟨oc4, od4, .func (PySem.W.fnOf "either" "either" (defArgs s_f_either) (defBody s_f_either) (defScope s_f_either) .none kV4 dc4 pm4 an4 cd4 ct4), sl4⟩)
    (c4 : PySem.W.codeIn K cd4 "either" = true)
    (k4 : PySem.W.keepIn K (.ref f4) = true)
    (a5 : PySem.W.nsIn K mainGlobals "sum_of" = some (some (.ref f5)))
    (l5 : K.lookup f5 = some ⟨oc5, od5, .func (PySem.W.fnOf "sum_of" "sum_of" (defArgs s_f_sum_of) (defBody s_f_sum_of) (defScope s_f_sum_of) .none kV5 dc5 pm5 an5 cd5 ct5), sl5⟩)
    (c5 : PySem.W.codeIn K cd5 "sum_of" = true)
    (k5 : PySem.W.keepIn K (.ref f5) = true)
    (a6 : PySem.W.nsIn K mainGlobals "made_one" = some (some (.ref f6)))
    (l6 : K.lookup f6 = some ⟨oc6, od6, .func (PySem.W.fnOf "made_one" "made_one" (defArgs s_f_made_one) (defBody s_f_made_one) (defScope s_f_made_one) .none kV6 dc6 pm6 an6 cd6 ct6), sl6⟩)
    (c6 : PySem.W.codeIn K cd6 "made_one" = true)
    (k6 : PySem.W.keepIn K (.ref f6) = true)
    (a7 : PySem.W.nsIn K mainGlobals "figure" = some (some (.ref f7)))
    (l7 : K.lookup f7 = some ⟨oc7, od7, .func (PySem.W.fnOf "figure" "figure" (defArgs s_f_figure) (defBody s_f_figure) (defScope s_f_figure) .none kV7 dc7 pm7 an7 cd7 ct7), sl7⟩)
    (c7 : PySem.W.codeIn K cd7 "figure" = true)
    (k7 : PySem.W.keepIn K (.ref f7) = true)
    (a8 : PySem.W.nsIn K mainGlobals "of_figures" = some (some (.ref f8)))
    (l8 : K.lookup f8 = some ⟨oc8, od8, .func (PySem.W.fnOf "of_figures" "of_figures" (defArgs s_f_of_figures) (defBody s_f_of_figures) (defScope s_f_of_figures) .none kV8 dc8 pm8 an8 cd8 ct8), sl8⟩)
    (c8 : PySem.W.codeIn K cd8 "of_figures" = true)
    (k8 : PySem.W.keepIn K (.ref f8) = true)
    (a9 : PySem.W.nsIn K mainGlobals "ones" = some (some (.ref f9)))
    (l9 : K.lookup f9 = some ⟨oc9, od9, .func (PySem.W.fnOf "ones" "ones" (defArgs s_f_ones) (defBody s_f_ones) (defScope s_f_ones) .none kV9 dc9 pm9 an9 cd9 ct9), sl9⟩)
    (c9 : PySem.W.codeIn K cd9 "ones" = true)
    (k9 : PySem.W.keepIn K (.ref f9) = true)
    (a10 : PySem.W.nsIn K mainGlobals "figures" = some (some (.ref f10)))
    (l10 : K.lookup f10 = some ⟨oc10, od10, .func (PySem.W.fnOf "figures" "figures" (defArgs s_f_figures) (defBody s_f_figures) (defScope s_f_figures) .none kV10 dc10 pm10 an10 cd10 ct10), sl10⟩)
    (c10 : PySem.W.codeIn K cd10 "figures" = true)
    (k10 : PySem.W.keepIn K (.ref f10) = true)
    (a11 : PySem.W.nsIn K mainGlobals "_law_figures_right" = some (some (.ref f11)))
    (l11 : K.lookup f11 = some ⟨oc11, od11, .func (PySem.W.fnOf "_law_figures_right" "_law_figures_right" (defArgs s_f_law_figures_right) (defBody s_f_law_figures_right) (defScope s_f_law_figures_right) .none kV11 dc11 pm11 an11 cd11 ct11), sl11⟩)
    (c11 : PySem.W.codeIn K cd11 "_law_figures_right" = true)
    (k11 : PySem.W.keepIn K (.ref f11) = true)
    (a12 : PySem.W.nsIn K mainGlobals "bits_of" = some (some (.ref f12)))
    (l12 : K.lookup f12 = some ⟨oc12, od12, .func (PySem.W.fnOf "bits_of" "bits_of" (defArgs s_f_bits_of) (defBody s_f_bits_of) (defScope s_f_bits_of) .none kV12 dc12 pm12 an12 cd12 ct12), sl12⟩)
    (c12 : PySem.W.codeIn K cd12 "bits_of" = true)
    (k12 : PySem.W.keepIn K (.ref f12) = true)
    (a13 : PySem.W.nsIn K mainGlobals "fits" = some (some (.ref f13)))
    (l13 : K.lookup f13 = some ⟨oc13, od13, .func (PySem.W.fnOf "fits" "fits" (defArgs s_f_fits) (defBody s_f_fits) (defScope s_f_fits) .none kV13 dc13 pm13 an13 cd13 ct13), sl13⟩)
    (c13 : PySem.W.codeIn K cd13 "fits" = true)
    (k13 : PySem.W.keepIn K (.ref f13) = true)
    (a14 : PySem.W.nsIn K mainGlobals "stands_out" = some (some (.ref f14)))
    (l14 : K.lookup f14 = some ⟨oc14, od14, .func (PySem.W.fnOf "stands_out" "stands_out" (defArgs s_f_stands_out) (defBody s_f_stands_out) (defScope s_f_stands_out) .none kV14 dc14 pm14 an14 cd14 ct14), sl14⟩)
    (c14 : PySem.W.codeIn K cd14 "stands_out" = true)
    (k14 : PySem.W.keepIn K (.ref f14) = true)
    (a15 : PySem.W.nsIn K mainGlobals "of_bits" = some (some (.ref f15)))
    (l15 : K.lookup f15 = some ⟨oc15, od15, .func (PySem.W.fnOf "of_bits" "of_bits" (defArgs s_f_of_bits) (defBody s_f_of_bits) (defScope s_f_of_bits) .none kV15 dc15 pm15 an15 cd15 ct15), sl15⟩)
    (c15 : PySem.W.codeIn K cd15 "of_bits" = true)
    (k15 : PySem.W.keepIn K (.ref f15) = true)
    (a16 : PySem.W.nsIn K mainGlobals "how_many" = some (some (.ref f16)))
    (l16 : K.lookup f16 = some ⟨oc16, od16, .func (PySem.W.fnOf "how_many" "how_many" (defArgs s_f_how_many) (defBody s_f_how_many) (defScope s_f_how_many) .none kV16 dc16 pm16 an16 cd16 ct16), sl16⟩)
    (c16 : PySem.W.codeIn K cd16 "how_many" = true)
    (k16 : PySem.W.keepIn K (.ref f16) = true)
    (a17 : PySem.W.nsIn K mainGlobals "_law_bits_right" = some (some (.ref f17)))
    (l17 : K.lookup f17 = some ⟨oc17, od17, .func (PySem.W.fnOf "_law_bits_right" "_law_bits_right" (defArgs s_f_law_bits_right) (defBody s_f_law_bits_right) (defScope s_f_law_bits_right) .none kV17 dc17 pm17 an17 cd17 ct17), sl17⟩)
    (c17 : PySem.W.codeIn K cd17 "_law_bits_right" = true)
    (k17 : PySem.W.keepIn K (.ref f17) = true)
    (a18 : PySem.W.nsIn K mainGlobals "choose" = some (some (.ref f18)))
    (l18 : K.lookup f18 = some ⟨oc18, od18, .func (PySem.W.fnOf "choose" "choose" (defArgs s_f_choose) (defBody s_f_choose) (defScope s_f_choose) .none kV18 dc18 pm18 an18 cd18 ct18), sl18⟩)
    (c18 : PySem.W.codeIn K cd18 "choose" = true)
    (k18 : PySem.W.keepIn K (.ref f18) = true)
    (a19 : PySem.W.nsIn K mainGlobals "halvings" = some (some (.ref f19)))
    (l19 : K.lookup f19 = some ⟨oc19, od19, .func (PySem.W.fnOf "halvings" "halvings" (defArgs s_f_halvings) (defBody s_f_halvings) (defScope s_f_halvings) .none kV19 dc19 pm19 an19 cd19 ct19), sl19⟩)
    (c19 : PySem.W.codeIn K cd19 "halvings" = true)
    (k19 : PySem.W.keepIn K (.ref f19) = true)
    (a20 : PySem.W.nsIn K mainGlobals "carries" = some (some (.ref f20)))
    (l20 : K.lookup f20 = some ⟨oc20, od20, .func (PySem.W.fnOf "carries" "carries" (defArgs s_f_carries) (defBody s_f_carries) (defScope s_f_carries) .none kV20 dc20 pm20 an20 cd20 ct20), sl20⟩)
    (c20 : PySem.W.codeIn K cd20 "carries" = true)
    (k20 : PySem.W.keepIn K (.ref f20) = true)
    (a21 : PySem.W.nsIn K mainGlobals "is_odd" = some (some (.ref f21)))
    (l21 : K.lookup f21 = some ⟨oc21, od21, .func (PySem.W.fnOf "is_odd" "is_odd" (defArgs s_f_is_odd) (defBody s_f_is_odd) (defScope s_f_is_odd) .none kV21 dc21 pm21 an21 cd21 ct21), sl21⟩)
    (c21 : PySem.W.codeIn K cd21 "is_odd" = true)
    (k21 : PySem.W.keepIn K (.ref f21) = true)
    (a22 : PySem.W.nsIn K mainGlobals "risen" = some (some (.ref f22)))
    (l22 : K.lookup f22 = some ⟨oc22, od22, .func (PySem.W.fnOf "risen" "risen" (defArgs s_f_risen) (defBody s_f_risen) (defScope s_f_risen) .none kV22 dc22 pm22 an22 cd22 ct22), sl22⟩)
    (c22 : PySem.W.codeIn K cd22 "risen" = true)
    (k22 : PySem.W.keepIn K (.ref f22) = true)
    (a23 : PySem.W.nsIn K mainGlobals "figure_of_power" = some (some (.ref f23)))
    (l23 : K.lookup f23 = some ⟨oc23, od23, .func (PySem.W.fnOf "figure_of_power" "figure_of_power" (defArgs s_f_figure_of_power) (defBody s_f_figure_of_power) (defScope s_f_figure_of_power) .none kV23 dc23 pm23 an23 cd23 ct23), sl23⟩)
    (c23 : PySem.W.codeIn K cd23 "figure_of_power" = true)
    (k23 : PySem.W.keepIn K (.ref f23) = true)
    (a24 : PySem.W.nsIn K mainGlobals "_law_choosing_right" = some (some (.ref f24)))
    (l24 : K.lookup f24 = some ⟨oc24, od24, .func (PySem.W.fnOf "_law_choosing_right" "_law_choosing_right" (defArgs s_f_law_choosing_right) (defBody s_f_law_choosing_right) (defScope s_f_law_choosing_right) .none kV24 dc24 pm24 an24 cd24 ct24), sl24⟩)
    (c24 : PySem.W.codeIn K cd24 "_law_choosing_right" = true)
    (k24 : PySem.W.keepIn K (.ref f24) = true)
    (a25 : PySem.W.nsIn K mainGlobals "led" = some (some (.ref f25)))
    (l25 : K.lookup f25 = some ⟨oc25, od25, .func (PySem.W.fnOf "led" "led" (defArgs s_f_led) (defBody s_f_led) (defScope s_f_led) .none kV25 dc25 pm25 an25 cd25 ct25), sl25⟩)
    (c25 : PySem.W.codeIn K cd25 "led" = true)
    (k25 : PySem.W.keepIn K (.ref f25) = true)
    (a26 : PySem.W.nsIn K mainGlobals "renamed" = some (some (.ref f26)))
    (l26 : K.lookup f26 = some ⟨oc26, od26, .func (PySem.W.fnOf "renamed" "renamed" (defArgs s_f_renamed) (defBody s_f_renamed) (defScope s_f_renamed) .none kV26 dc26 pm26 an26 cd26 ct26), sl26⟩)
    (c26 : PySem.W.codeIn K cd26 "renamed" = true)
    (k26 : PySem.W.keepIn K (.ref f26) = true)
    (a27 : PySem.W.nsIn K mainGlobals "let_by" = some (some (.ref f27)))
    (l27 : K.lookup f27 = some ⟨oc27, od27, .func (PySem.W.fnOf "let_by" "let_by" (defArgs s_f_let_by) (defBody s_f_let_by) (defScope s_f_let_by) .none kV27 dc27 pm27 an27 cd27 ct27), sl27⟩)
    (c27 : PySem.W.codeIn K cd27 "let_by" = true)
    (k27 : PySem.W.keepIn K (.ref f27) = true)
    (a28 : PySem.W.nsIn K mainGlobals "power_of" = some (some (.ref f28)))
    (l28 : K.lookup f28 = some ⟨oc28, od28, .func (PySem.W.fnOf "power_of" "power_of" (defArgs s_f_power_of) (defBody s_f_power_of) (defScope s_f_power_of) .none kV28 dc28 pm28 an28 cd28 ct28), sl28⟩)
    (c28 : PySem.W.codeIn K cd28 "power_of" = true)
    (k28 : PySem.W.keepIn K (.ref f28) = true)
    (a29 : PySem.W.nsIn K mainGlobals "product" = some (some (.ref f29)))
    (l29 : K.lookup f29 = some ⟨oc29, od29, .func (PySem.W.fnOf "product" "product" (defArgs s_f_product) (defBody s_f_product) (defScope s_f_product) .none kV29 dc29 pm29 an29 cd29 ct29), sl29⟩)
    (c29 : PySem.W.codeIn K cd29 "product" = true)
    (k29 : PySem.W.keepIn K (.ref f29) = true)
    (a30 : PySem.W.nsIn K mainGlobals "come_to" = some (some (.ref f30)))
    (l30 : K.lookup f30 = some ⟨oc30, od30, .func (PySem.W.fnOf "come_to" "come_to" (defArgs s_f_come_to) (defBody s_f_come_to) (defScope s_f_come_to) .none kV30 dc30 pm30 an30 cd30 ct30), sl30⟩)
    (c30 : PySem.W.codeIn K cd30 "come_to" = true)
    (k30 : PySem.W.keepIn K (.ref f30) = true)
    (a31 : PySem.W.nsIn K mainGlobals "number_of" = some (some (.ref f31)))
    (l31 : K.lookup f31 = some ⟨oc31, od31, .func (PySem.W.fnOf "number_of" "number_of" (defArgs s_f_number_of) (defBody s_f_number_of) (defScope s_f_number_of) .none kV31 dc31 pm31 an31 cd31 ct31), sl31⟩)
    (c31 : PySem.W.codeIn K cd31 "number_of" = true)
    (k31 : PySem.W.keepIn K (.ref f31) = true)
    (a32 : PySem.W.nsIn K mainGlobals "worth" = some (some (.ref f32)))
    (l32 : K.lookup f32 = some ⟨oc32, od32, .func (PySem.W.fnOf "worth" "worth" (defArgs s_f_worth) (defBody s_f_worth) (defScope s_f_worth) .none kV32 dc32 pm32 an32 cd32 ct32), sl32⟩)
    (c32 : PySem.W.codeIn K cd32 "worth" = true)
    (k32 : PySem.W.keepIn K (.ref f32) = true)
    (a33 : PySem.W.nsIn K mainGlobals "holds" = some (some (.ref f33)))
    (l33 : K.lookup f33 = some ⟨oc33, od33, .func (PySem.W.fnOf "holds" "holds" (defArgs s_f_holds) (defBody s_f_holds) (defScope s_f_holds) .none kV33 dc33 pm33 an33 cd33 ct33), sl33⟩)
    (c33 : PySem.W.codeIn K cd33 "holds" = true)
    (k33 : PySem.W.keepIn K (.ref f33) = true)
    (a34 : PySem.W.nsIn K mainGlobals "off" = some (some (.ref f34)))
    (l34 : K.lookup f34 = some ⟨oc34, od34, .func (PySem.W.fnOf "off" "off" (defArgs s_f_off) (defBody s_f_off) (defScope s_f_off) .none kV34 dc34 pm34 an34 cd34 ct34), sl34⟩)
    (c34 : PySem.W.codeIn K cd34 "off" = true)
    (k34 : PySem.W.keepIn K (.ref f34) = true)
    (a35 : PySem.W.nsIn K mainGlobals "first_wrong" = some (some (.ref f35)))
    (l35 : K.lookup f35 = some ⟨oc35, od35, .func (PySem.W.fnOf "first_wrong" "first_wrong" (defArgs s_f_first_wrong) (defBody s_f_first_wrong) (defScope s_f_first_wrong) .none kV35 dc35 pm35 an35 cd35 ct35), sl35⟩)
    (c35 : PySem.W.codeIn K cd35 "first_wrong" = true)
    (k35 : PySem.W.keepIn K (.ref f35) = true)
    (a36 : PySem.W.nsIn K mainGlobals "far_off" = some (some (.ref f36)))
    (l36 : K.lookup f36 = some ⟨oc36, od36, .func (PySem.W.fnOf "far_off" "far_off" (defArgs s_f_far_off) (defBody s_f_far_off) (defScope s_f_far_off) .none kV36 dc36 pm36 an36 cd36 ct36), sl36⟩)
    (c36 : PySem.W.codeIn K cd36 "far_off" = true)
    (k36 : PySem.W.keepIn K (.ref f36) = true)
    (a37 : PySem.W.findIn K (.ref C_Saying) "__eq__" = some (some (.ref f37)))
    (i37 : PySem.W.isFn K (.ref f37) = true)
    (l37 : K.lookup f37 = some ⟨oc37, od37, .func (PySem.W.fnOf "__eq__" "Saying.__eq__" (defArgs s_f_Saying__eq) (defBody s_f_Saying__eq) (defScope s_f_Saying__eq) .none kV37 dc37 pm37 an37 cd37 ct37), sl37⟩)
    (c37 : PySem.W.codeIn K cd37 "Saying.__eq__" = true)
    (k37 : PySem.W.keepIn K (.ref f37) = true)
    (a38 : PySem.W.nsIn K mainGlobals "_law_looking_right" = some (some (.ref f38)))
    (l38 : K.lookup f38 = some ⟨oc38, od38, .func (PySem.W.fnOf "_law_looking_right" "_law_looking_right" (defArgs s_f_law_looking_right) (defBody s_f_law_looking_right) (defScope s_f_law_looking_right) .none kV38 dc38 pm38 an38 cd38 ct38), sl38⟩)
    (c38 : PySem.W.codeIn K cd38 "_law_looking_right" = true)
    (k38 : PySem.W.keepIn K (.ref f38) = true)
    (a39 : PySem.W.nsIn K mainGlobals "law" = some (some (.ref f39)))
    (l39 : K.lookup f39 = some ⟨oc39, od39, .func (PySem.W.fnOf "law" "law" (defArgs s_f_law) (defBody s_f_law) (defScope s_f_law) .none kV39 dc39 pm39 an39 cd39 ct39), sl39⟩)
    (c39 : PySem.W.codeIn K cd39 "law" = true)
    (k39 : PySem.W.keepIn K (.ref f39) = true)
    (z_len : PySem.W.nsIn K mainGlobals "len" = some none)
    (z_int : PySem.W.nsIn K mainGlobals "int" = some none)
    (z_enumerate : PySem.W.nsIn K mainGlobals "enumerate" = some none)
    (z_range : PySem.W.nsIn K mainGlobals "range" = some none)
    (z_reversed : PySem.W.nsIn K mainGlobals "reversed" = some none)
    (z_str : PySem.W.nsIn K mainGlobals "str" = some none)
    (z_sum : PySem.W.nsIn K mainGlobals "sum" = some none)
    (z_isinstance : PySem.W.nsIn K mainGlobals "isinstance" = some none)
    (z_max : PySem.W.nsIn K mainGlobals "max" = some none)
    (z_min : PySem.W.nsIn K mainGlobals "min" = some none)
    (y_WORDS : PySem.W.nsIn K mainGlobals "WORDS" = some (some (.ref a_WORDS)))
    (ld_WORDS : K.lookup a_WORDS = some ⟨.type "dict", none, .dict es_WORDS n_WORDS, #[]⟩)
    (kl_WORDS : PySem.W.KeysLit w.params es_WORDS.toList)
    (sm_WORDS : (a_WORDS == sysModules) = false)
    (v_WORDS_0 : PySem.W.nsIn K a_WORDS "same" = some (some (.str "=" tv_WORDS_0)))
    (v_WORDS_1 : PySem.W.nsIn K a_WORDS "under" = some (some (.str "under" tv_WORDS_1)))
    (y_TWO : PySem.W.nsIn K mainGlobals "TWO" = some (some (.ref a_TWO)))
    (lt_TWO : K.lookup a_TWO = some ⟨.type "tuple", to_TWO, .seq ti_TWO tn_TWO, ts_TWO⟩)
    (vt_TWO : ti_TWO.size ≤ sizeLine ∧ Vals [V.str "num", V.int 2] ti_TWO.toList)
    (y_MOST_BITS : PySem.W.nsIn K mainGlobals "MOST_BITS" = some (some (.int 1000000 t_MOST_BITS)))
    (z_nd : NoDig K)
    : ∃ fd : FuncData, (∀ (s : Shared) (v : Value), BindsTo s fd ⟨[v], []⟩ [("script", v)]) ∧ ∀ base : Heap, K.In base → base.Ns mainGlobals mg → FnG l.prog w K mg base CX0 10 fa fd ["script"] (sp_f_law K) := by
  have e := hfa.symm.trans (PySem.W.mg_of X G a39)
  cases e
  have m_len : mg "len" = none := PySem.W.mg_none_of X G z_len
  have m_int : mg "int" = none := PySem.W.mg_none_of X G z_int
  have m_enumerate : mg "enumerate" = none := PySem.W.mg_none_of X G z_enumerate
  have m_range : mg "range" = none := PySem.W.mg_none_of X G z_range
  have m_reversed : mg "reversed" = none := PySem.W.mg_none_of X G z_reversed
  have m_str : mg "str" = none := PySem.W.mg_none_of X G z_str
  have m_sum : mg "sum" = none := PySem.W.mg_none_of X G z_sum
  have m_isinstance : mg "isinstance" = none := PySem.W.mg_none_of X G z_isinstance
  have m_max : mg "max" = none := PySem.W.mg_none_of X G z_max
  have m_min : mg "min" = none := PySem.W.mg_none_of X G z_min
  have c_WORDS := PySem.W.mg_of X G y_WORDS
  have d_WORDS : KDs K w a_WORDS ["same", "under"] := by
    refine ⟨sm_WORDS, fun z hz => ?_⟩
    rcases List.mem_cons.mp hz with rfl | hz
    · exact ⟨.str (Str.ofString "="), _, _, _, ld_WORDS, kl_WORDS, v_WORDS_0, ⟨_, rfl⟩⟩
    rcases List.mem_cons.mp hz with rfl | hz
    · exact ⟨.str (Str.ofString "under"), _, _, _, ld_WORDS, kl_WORDS, v_WORDS_1, ⟨_, rfl⟩⟩
    cases hz
  have c_TWO := PySem.W.mg_of X G y_TWO
  have d_TWO : ∀ H : Hp, SqT K H a_TWO [V.str "num", V.int 2] := fun H => .inr ⟨_, _, _, lt_TWO, rfl, rfl, vt_TWO.1, vt_TWO.2⟩
  have c_MOST_BITS := PySem.W.mg_of X G y_MOST_BITS
  have SC_Saying : ClsN K "Saying" C_Saying ["word", "left", "right"] := ⟨⟨⟨pg_Saying, hd_Saying, po_Saying, sa_Saying⟩, by
    intro f hf
    rcases List.mem_cons.mp hf with rfl | hf
    · exact na_Saying_word
    rcases List.mem_cons.mp hf with rfl | hf
    · exact na_Saying_left
    rcases List.mem_cons.mp hf with rfl | hf
    · exact na_Saying_right
    cases hf⟩, g_Saying⟩
  have OC_Saying : ClsO K C_Saying := ⟨o1_Saying, o2_Saying, o3_Saying, o4, o5, o6_Saying⟩
  have n_Saying := PySem.W.mg_of X G g_Saying
  have F0 := fun_mk (st := s_f_law_box) l0 c0 k0
  have F1 := fun_mk (st := s_f_law_take) l1 c1 k1
  have F2 := fun_mk (st := s_f_Saying__init) l2 c2 k2
  have F3 := fun_mk (st := s_f_need_same) l3 c3 k3
  have F4 := fun_mk (st := s_f_either) l4 c4 k4
  have F5 := fun_mk (st := s_f_sum_of) l5 c5 k5
  have F6 := fun_mk (st := s_f_made_one) l6 c6 k6
  have F7 := fun_mk (st := s_f_figure) l7 c7 k7
  have F8 := fun_mk (st := s_f_of_figures) l8 c8 k8
  have F9 := fun_mk (st := s_f_ones) l9 c9 k9
  have F10 := fun_mk (st := s_f_figures) l10 c10 k10
  have F11 := fun_mk (st := s_f_law_figures_right) l11 c11 k11
  have F12 := fun_mk (st := s_f_bits_of) l12 c12 k12
  have F13 := fun_mk (st := s_f_fits) l13 c13 k13
  have F14 := fun_mk (st := s_f_stands_out) l14 c14 k14
  have F15 := fun_mk (st := s_f_of_bits) l15 c15 k15
  have F16 := fun_mk (st := s_f_how_many) l16 c16 k16
  have F17 := fun_mk (st := s_f_law_bits_right) l17 c17 k17
  have F18 := fun_mk (st := s_f_choose) l18 c18 k18
  have F19 := fun_mk (st := s_f_halvings) l19 c19 k19
  have F20 := fun_mk (st := s_f_carries) l20 c20 k20
  have F21 := fun_mk (st := s_f_is_odd) l21 c21 k21
  have F22 := fun_mk (st := s_f_risen) l22 c22 k22
  have F23 := fun_mk (st := s_f_figure_of_power) l23 c23 k23
  have F24 := fun_mk (st := s_f_law_choosing_right) l24 c24 k24
  have F25 := fun_mk (st := s_f_led) l25 c25 k25
  have F26 := fun_mk (st := s_f_renamed) l26 c26 k26
  have F27 := fun_mk (st := s_f_let_by) l27 c27 k27
  have F28 := fun_mk (st := s_f_power_of) l28 c28 k28
  have F29 := fun_mk (st := s_f_product) l29 c29 k29
  have F30 := fun_mk (st := s_f_come_to) l30 c30 k30
  have F31 := fun_mk (st := s_f_number_of) l31 c31 k31
  have F32 := fun_mk (st := s_f_worth) l32 c32 k32
  have F33 := fun_mk (st := s_f_holds) l33 c33 k33
  have F34 := fun_mk (st := s_f_off) l34 c34 k34
  have F35 := fun_mk (st := s_f_first_wrong) l35 c35 k35
  have F36 := fun_mk (st := s_f_far_off) l36 c36 k36
  have F37 := fun_mk (st := s_f_Saying__eq) l37 c37 k37
  have F38 := fun_mk (st := s_f_law_looking_right) l38 c38 k38
  have F39 := fun_mk (st := s_f_law) l39 c39 k39
  refine ⟨PySem.W.fnOf "law" "law" (defArgs s_f_law) (defBody s_f_law) (defScope s_f_law) .none kV39 dc39 pm39 an39 cd39 ct39, fun s v => .of_eq rfl, fun base _ _ => ?_⟩
  have O0 : FnG l.prog w K mg base CX0 1 f0 _ ["script", "at"] (sp_f_law_box K) := ok_f_law_box F0 m_len m_int
  have D_f_law_box : Def l.prog w K mg base CX0 "_law_box" 1 ["script", "at"] (sp_f_law_box K) := ⟨f0, _, PySem.W.mg_of X G a0, O0, k0, F0.binds (ps := ["script", "at"]) fun _ _ _ _ _ _ us hl => match us, hl with | [_, _], _ => rfl⟩
  have O1 : FnG l.prog w K mg base CX0 1 f1 _ ["box", "wide"] (sp_f_law_take K) := ok_f_law_take F1
  have D_f_law_take : Def l.prog w K mg base CX0 "_law_take" 1 ["box", "wide"] (sp_f_law_take K) := ⟨f1, _, PySem.W.mg_of X G a1, O1, k1, F1.binds (ps := ["box", "wide"]) fun _ _ _ _ _ _ us hl => match us, hl with | [_, _], _ => rfl⟩
  have O2 : FnG l.prog w K mg base CX0 1 f2 _ ["self", "word", "left", "right"] (sp_f_Saying__init K) := ok_f_Saying__init F2 c_WORDS d_WORDS
  have G_Saying : DefM l.prog w K mg base CX0 "Saying" 1 ["self", "word", "left", "right"] (sp_f_Saying__init K) C_Saying := ⟨f2, _, PySem.W.mg_of X G g_Saying, ⟨mk_Saying, a2, i2, kc_Saying⟩, O2, F2.binds (ps := ["self", "word", "left", "right"]) fun _ _ _ _ _ _ us hl => match us, hl with | [_, _, _, _], _ => rfl⟩
  have O3 : FnG l.prog w K mg base CX0 1 f3 _ ["sayings"] (sp_f_need_same K) := ok_f_need_same F3 m_enumerate
  have D_f_need_same : Def l.prog w K mg base CX0 "need_same" 1 ["sayings"] (sp_f_need_same K) := ⟨f3, _, PySem.W.mg_of X G a3, O3, k3, F3.binds (ps := ["sayings"]) fun _ _ _ _ _ _ us hl => match us, hl with | [_], _ => rfl⟩
  have O4 : FnG l.prog w K mg base CX0 3 f4 _ ["one", "other"] (sp_f_either K) := ok_f_either F4 D_f_need_same G_Saying SC_Saying
  have D_f_either : Def l.prog w K mg base CX0 "either" 3 ["one", "other"] (sp_f_either K) := ⟨f4, _, PySem.W.mg_of X G a4, O4, k4, F4.binds (ps := ["one", "other"]) fun _ _ _ _ _ _ us hl => match us, hl with | [_, _], _ => rfl⟩
  have DK_f_either_other_one : DefK l.prog w K mg base CX0 "either" 3 ["one", "other"] ["other", "one"] gk_f_either_other_one (sp_f_either K) := ⟨f4, _, _, PySem.W.mg_of X G a4, O4, k4, kb_f_either_other_one F4⟩
  have O5 : FnG l.prog w K mg base CX0 1 f5 _ ["terms"] (sp_f_sum_of K) := ok_f_sum_of F5 m_enumerate m_int
  have D_f_sum_of : Def l.prog w K mg base CX0 "sum_of" 1 ["terms"] (sp_f_sum_of K) := ⟨f5, _, PySem.W.mg_of X G a5, O5, k5, F5.binds (ps := ["terms"]) fun _ _ _ _ _ _ us hl => match us, hl with | [_], _ => rfl⟩
  have O6 : FnG l.prog w K mg base CX0 3 f6 _ ["sayings"] (sp_f_made_one K) := ok_f_made_one F6 D_f_need_same G_Saying SC_Saying D_f_sum_of c_TWO d_TWO
  have D_f_made_one : Def l.prog w K mg base CX0 "made_one" 3 ["sayings"] (sp_f_made_one K) := ⟨f6, _, PySem.W.mg_of X G a6, O6, k6, F6.binds (ps := ["sayings"]) fun _ _ _ _ _ _ us hl => match us, hl with | [_], _ => rfl⟩
  have DK_f_made_one_sayings : DefK l.prog w K mg base CX0 "made_one" 3 ["sayings"] ["sayings"] gk_f_made_one_sayings (sp_f_made_one K) := ⟨f6, _, _, PySem.W.mg_of X G a6, O6, k6, kb_f_made_one_sayings F6⟩
  have O7 : FnG l.prog w K mg base CX0 1 f7 _ ["number", "base", "k"] (sp_f_figure K) := ok_f_figure F7 m_range
  have D_f_figure : Def l.prog w K mg base CX0 "figure" 1 ["number", "base", "k"] (sp_f_figure K) := ⟨f7, _, PySem.W.mg_of X G a7, O7, k7, F7.binds (ps := ["number", "base", "k"]) fun _ _ _ _ _ _ us hl => match us, hl with | [_, _, _], _ => rfl⟩
  have DK_f_figure_k_base_number : DefK l.prog w K mg base CX0 "figure" 1 ["number", "base", "k"] ["k", "base", "number"] gk_f_figure_k_base_number (sp_f_figure K) := ⟨f7, _, _, PySem.W.mg_of X G a7, O7, k7, kb_f_figure_k_base_number F7⟩
  have DK_f_figure_base_k_number : DefK l.prog w K mg base CX0 "figure" 1 ["number", "base", "k"] ["base", "k", "number"] gk_f_figure_base_k_number (sp_f_figure K) := ⟨f7, _, _, PySem.W.mg_of X G a7, O7, k7, kb_f_figure_base_k_number F7⟩
  have O8 : FnG l.prog w K mg base CX0 1 f8 _ ["some", "base"] (sp_f_of_figures K) := ok_f_of_figures F8 m_reversed
  have D_f_of_figures : Def l.prog w K mg base CX0 "of_figures" 1 ["some", "base"] (sp_f_of_figures K) := ⟨f8, _, PySem.W.mg_of X G a8, O8, k8, F8.binds (ps := ["some", "base"]) fun _ _ _ _ _ _ us hl => match us, hl with | [_, _], _ => rfl⟩
  have DK_f_of_figures_base_some : DefK l.prog w K mg base CX0 "of_figures" 1 ["some", "base"] ["base", "some"] gk_f_of_figures_base_some (sp_f_of_figures K) := ⟨f8, _, _, PySem.W.mg_of X G a8, O8, k8, kb_f_of_figures_base_some F8⟩
  have O9 : FnG l.prog w K mg base CX0 2 f9 _ ["base", "many"] (sp_f_ones K) := ok_f_ones F9 D_f_of_figures
  have D_f_ones : Def l.prog w K mg base CX0 "ones" 2 ["base", "many"] (sp_f_ones K) := ⟨f9, _, PySem.W.mg_of X G a9, O9, k9, F9.binds (ps := ["base", "many"]) fun _ _ _ _ _ _ us hl => match us, hl with | [_, _], _ => rfl⟩
  have DK_f_ones_many_base : DefK l.prog w K mg base CX0 "ones" 2 ["base", "many"] ["many", "base"] gk_f_ones_many_base (sp_f_ones K) := ⟨f9, _, _, PySem.W.mg_of X G a9, O9, k9, kb_f_ones_many_base F9⟩
  have O10 : FnG l.prog w K mg base CX0 1 f10 _ ["number", "base", "many"] (sp_f_figures K) := ok_f_figures F10 m_range
  have D_f_figures : Def l.prog w K mg base CX0 "figures" 1 ["number", "base", "many"] (sp_f_figures K) := ⟨f10, _, PySem.W.mg_of X G a10, O10, k10, F10.binds (ps := ["number", "base", "many"]) fun _ _ _ _ _ _ us hl => match us, hl with | [_, _, _], _ => rfl⟩
  have DK_f_figures_many_base_number : DefK l.prog w K mg base CX0 "figures" 1 ["number", "base", "many"] ["many", "base", "number"] gk_f_figures_many_base_number (sp_f_figures K) := ⟨f10, _, _, PySem.W.mg_of X G a10, O10, k10, kb_f_figures_many_base_number F10⟩
  have O11 : FnG l.prog w K mg base CX0 3 f11 _ ["whole", "wide", "count"] (sp_f_law_figures_right K) := ok_f_law_figures_right F11 D_f_of_figures DK_f_figure_k_base_number DK_f_figure_base_k_number DK_f_of_figures_base_some DK_f_ones_many_base DK_f_figures_many_base_number
  have D_f_law_figures_right : Def l.prog w K mg base CX0 "_law_figures_right" 3 ["whole", "wide", "count"] (sp_f_law_figures_right K) := ⟨f11, _, PySem.W.mg_of X G a11, O11, k11, F11.binds (ps := ["whole", "wide", "count"]) fun _ _ _ _ _ _ us hl => match us, hl with | [_, _, _], _ => rfl⟩
  have O12 : FnG l.prog w K mg base CX0 1 f12 _ ["number"] (sp_f_bits_of K) := ok_f_bits_of F12 m_str
  have D_f_bits_of : Def l.prog w K mg base CX0 "bits_of" 1 ["number"] (sp_f_bits_of K) := ⟨f12, _, PySem.W.mg_of X G a12, O12, k12, F12.binds (ps := ["number"]) fun _ _ _ _ _ _ us hl => match us, hl with | [_], _ => rfl⟩
  have DK_f_bits_of_number : DefK l.prog w K mg base CX0 "bits_of" 1 ["number"] ["number"] gk_f_bits_of_number (sp_f_bits_of K) := ⟨f12, _, _, PySem.W.mg_of X G a12, O12, k12, kb_f_bits_of_number F12⟩
  have O13 : FnG l.prog w K mg base CX0 1 f13 _ ["one", "other"] (sp_f_fits K) := ok_f_fits F13
  have D_f_fits : Def l.prog w K mg base CX0 "fits" 1 ["one", "other"] (sp_f_fits K) := ⟨f13, _, PySem.W.mg_of X G a13, O13, k13, F13.binds (ps := ["one", "other"]) fun _ _ _ _ _ _ us hl => match us, hl with | [_, _], _ => rfl⟩
  have DK_f_fits_other_one : DefK l.prog w K mg base CX0 "fits" 1 ["one", "other"] ["other", "one"] gk_f_fits_other_one (sp_f_fits K) := ⟨f13, _, _, PySem.W.mg_of X G a13, O13, k13, kb_f_fits_other_one F13⟩
  have O14 : FnG l.prog w K mg base CX0 1 f14 _ ["one", "other"] (sp_f_stands_out K) := ok_f_stands_out F14
  have D_f_stands_out : Def l.prog w K mg base CX0 "stands_out" 1 ["one", "other"] (sp_f_stands_out K) := ⟨f14, _, PySem.W.mg_of X G a14, O14, k14, F14.binds (ps := ["one", "other"]) fun _ _ _ _ _ _ us hl => match us, hl with | [_, _], _ => rfl⟩
  have DK_f_stands_out_other_one : DefK l.prog w K mg base CX0 "stands_out" 1 ["one", "other"] ["other", "one"] gk_f_stands_out_other_one (sp_f_stands_out K) := ⟨f14, _, _, PySem.W.mg_of X G a14, O14, k14, kb_f_stands_out_other_one F14⟩
  have O15 : FnG l.prog w K mg base CX0 1 f15 _ ["text"] (sp_f_of_bits K) := ok_f_of_bits F15 m_enumerate m_int z_nd
  have D_f_of_bits : Def l.prog w K mg base CX0 "of_bits" 1 ["text"] (sp_f_of_bits K) := ⟨f15, _, PySem.W.mg_of X G a15, O15, k15, F15.binds (ps := ["text"]) fun _ _ _ _ _ _ us hl => match us, hl with | [_], _ => rfl⟩
  have DK_f_of_bits_text : DefK l.prog w K mg base CX0 "of_bits" 1 ["text"] ["text"] gk_f_of_bits_text (sp_f_of_bits K) := ⟨f15, _, _, PySem.W.mg_of X G a15, O15, k15, kb_f_of_bits_text F15⟩
  have O16 : FnG l.prog w K mg base CX0 1 f16 _ ["number"] (sp_f_how_many K) := ok_f_how_many F16
  have D_f_how_many : Def l.prog w K mg base CX0 "how_many" 1 ["number"] (sp_f_how_many K) := ⟨f16, _, PySem.W.mg_of X G a16, O16, k16, F16.binds (ps := ["number"]) fun _ _ _ _ _ _ us hl => match us, hl with | [_], _ => rfl⟩
  have DK_f_how_many_number : DefK l.prog w K mg base CX0 "how_many" 1 ["number"] ["number"] gk_f_how_many_number (sp_f_how_many K) := ⟨f16, _, _, PySem.W.mg_of X G a16, O16, k16, kb_f_how_many_number F16⟩
  have O17 : FnG l.prog w K mg base CX0 2 f17 _ ["first", "second"] (sp_f_law_bits_right K) := ok_f_law_bits_right F17 D_f_bits_of DK_f_bits_of_number DK_f_fits_other_one DK_f_stands_out_other_one DK_f_of_bits_text DK_f_how_many_number
  have D_f_law_bits_right : Def l.prog w K mg base CX0 "_law_bits_right" 2 ["first", "second"] (sp_f_law_bits_right K) := ⟨f17, _, PySem.W.mg_of X G a17, O17, k17, F17.binds (ps := ["first", "second"]) fun _ _ _ _ _ _ us hl => match us, hl with | [_, _], _ => rfl⟩
  have O18 : FnG l.prog w K mg base CX0 1 f18 _ ["n", "k"] (sp_f_choose K) := ok_f_choose F18 m_range
  have D_f_choose : Def l.prog w K mg base CX0 "choose" 1 ["n", "k"] (sp_f_choose K) := ⟨f18, _, PySem.W.mg_of X G a18, O18, k18, F18.binds (ps := ["n", "k"]) fun _ _ _ _ _ _ us hl => match us, hl with | [_, _], _ => rfl⟩
  have DK_f_choose_k_n : DefK l.prog w K mg base CX0 "choose" 1 ["n", "k"] ["k", "n"] gk_f_choose_k_n (sp_f_choose K) := ⟨f18, _, _, PySem.W.mg_of X G a18, O18, k18, kb_f_choose_k_n F18⟩
  have O19 : FnG l.prog w K mg base CX0 1 f19 _ ["number"] (sp_f_halvings K) := ok_f_halvings F19
  have D_f_halvings : Def l.prog w K mg base CX0 "halvings" 1 ["number"] (sp_f_halvings K) := ⟨f19, _, PySem.W.mg_of X G a19, O19, k19, F19.binds (ps := ["number"]) fun _ _ _ _ _ _ us hl => match us, hl with | [_], _ => rfl⟩
  have DK_f_halvings_number : DefK l.prog w K mg base CX0 "halvings" 1 ["number"] ["number"] gk_f_halvings_number (sp_f_halvings K) := ⟨f19, _, _, PySem.W.mg_of X G a19, O19, k19, kb_f_halvings_number F19⟩
  have O20 : FnG l.prog w K mg base CX0 1 f20 _ ["one", "other"] (sp_f_carries K) := ok_f_carries F20
  have D_f_carries : Def l.prog w K mg base CX0 "carries" 1 ["one", "other"] (sp_f_carries K) := ⟨f20, _, PySem.W.mg_of X G a20, O20, k20, F20.binds (ps := ["one", "other"]) fun _ _ _ _ _ _ us hl => match us, hl with | [_, _], _ => rfl⟩
  have DK_f_carries_other_one : DefK l.prog w K mg base CX0 "carries" 1 ["one", "other"] ["other", "one"] gk_f_carries_other_one (sp_f_carries K) := ⟨f20, _, _, PySem.W.mg_of X G a20, O20, k20, kb_f_carries_other_one F20⟩
  have O21 : FnG l.prog w K mg base CX0 2 f21 _ ["n", "k"] (sp_f_is_odd K) := ok_f_is_odd F21 D_f_fits
  have D_f_is_odd : Def l.prog w K mg base CX0 "is_odd" 2 ["n", "k"] (sp_f_is_odd K) := ⟨f21, _, PySem.W.mg_of X G a21, O21, k21, F21.binds (ps := ["n", "k"]) fun _ _ _ _ _ _ us hl => match us, hl with | [_, _], _ => rfl⟩
  have DK_f_is_odd_k_n : DefK l.prog w K mg base CX0 "is_odd" 2 ["n", "k"] ["k", "n"] gk_f_is_odd_k_n (sp_f_is_odd K) := ⟨f21, _, _, PySem.W.mg_of X G a21, O21, k21, kb_f_is_odd_k_n F21⟩
  have O22 : FnG l.prog w K mg base CX0 1 f22 _ ["base", "times"] (sp_f_risen K) := ok_f_risen F22
  have D_f_risen : Def l.prog w K mg base CX0 "risen" 1 ["base", "times"] (sp_f_risen K) := ⟨f22, _, PySem.W.mg_of X G a22, O22, k22, F22.binds (ps := ["base", "times"]) fun _ _ _ _ _ _ us hl => match us, hl with | [_, _], _ => rfl⟩
  have O23 : FnG l.prog w K mg base CX0 2 f23 _ ["n", "k"] (sp_f_figure_of_power K) := ok_f_figure_of_power F23 D_f_risen
  have D_f_figure_of_power : Def l.prog w K mg base CX0 "figure_of_power" 2 ["n", "k"] (sp_f_figure_of_power K) := ⟨f23, _, PySem.W.mg_of X G a23, O23, k23, F23.binds (ps := ["n", "k"]) fun _ _ _ _ _ _ us hl => match us, hl with | [_, _], _ => rfl⟩
  have DK_f_figure_of_power_k_n : DefK l.prog w K mg base CX0 "figure_of_power" 2 ["n", "k"] ["k", "n"] gk_f_figure_of_power_k_n (sp_f_figure_of_power K) := ⟨f23, _, _, PySem.W.mg_of X G a23, O23, k23, kb_f_figure_of_power_k_n F23⟩
  have O24 : FnG l.prog w K mg base CX0 3 f24 _ ["first", "second"] (sp_f_law_choosing_right K) := ok_f_law_choosing_right F24 D_f_choose DK_f_choose_k_n DK_f_halvings_number DK_f_carries_other_one DK_f_is_odd_k_n DK_f_figure_of_power_k_n
  have D_f_law_choosing_right : Def l.prog w K mg base CX0 "_law_choosing_right" 3 ["first", "second"] (sp_f_law_choosing_right K) := ⟨f24, _, PySem.W.mg_of X G a24, O24, k24, F24.binds (ps := ["first", "second"]) fun _ _ _ _ _ _ us hl => match us, hl with | [_, _], _ => rfl⟩
  have R25 : ∀ m : Nat, FnG l.prog w K mg base CX0 (0 + m) f25 (PySem.W.fnOf "led" "led" (defArgs s_f_led) (defBody s_f_led) (defScope s_f_led) .none kV25 dc25 pm25 an25 cd25 ct25) ["term", "names"] (spR_f_led K m) := by
    intro m
    induction m with
    | zero => exact FnG.no (fun _ _ _ _ h => h)
    | succ m ih =>
      have D_f_led : Def l.prog w K mg base CX0 "led" (0 + m) ["term", "names"] (spR_f_led K m) := ⟨f25, _, PySem.W.mg_of X G a25, ih, k25, F25.binds (ps := ["term", "names"]) fun _ _ _ _ _ _ us hl => match us, hl with | [_, _], _ => rfl⟩
      exact ok_f_led F25 D_f_led
  have O25 : FnG l.prog w K mg base CX0 6 f25 _ ["term", "names"] (sp_f_led K) := R25 6
  have D_f_led : Def l.prog w K mg base CX0 "led" 7 ["term", "names"] (sp_f_led K) := ⟨f25, _, PySem.W.mg_of X G a25, O25.mono (by omega), k25, F25.binds (ps := ["term", "names"]) fun _ _ _ _ _ _ us hl => match us, hl with | [_, _], _ => rfl⟩
  have O26 : FnG l.prog w K mg base CX0 8 f26 _ ["saying", "names"] (sp_f_renamed K) := ok_f_renamed F26 G_Saying SC_Saying D_f_led
  have D_f_renamed : Def l.prog w K mg base CX0 "renamed" 8 ["saying", "names"] (sp_f_renamed K) := ⟨f26, _, PySem.W.mg_of X G a26, O26, k26, F26.binds (ps := ["saying", "names"]) fun _ _ _ _ _ _ us hl => match us, hl with | [_, _], _ => rfl⟩
  have DK_f_renamed_names_saying : DefK l.prog w K mg base CX0 "renamed" 8 ["saying", "names"] ["names", "saying"] gk_f_renamed_names_saying (sp_f_renamed K) := ⟨f26, _, _, PySem.W.mg_of X G a26, O26, k26, kb_f_renamed_names_saying F26⟩
  have O27 : FnG l.prog w K mg base CX0 1 f27 _ ["number"] (sp_f_let_by K) := ok_f_let_by F27 c_MOST_BITS
  have D_f_let_by : Def l.prog w K mg base CX0 "let_by" 1 ["number"] (sp_f_let_by K) := ⟨f27, _, PySem.W.mg_of X G a27, O27, k27, F27.binds (ps := ["number"]) fun _ _ _ _ _ _ us hl => match us, hl with | [_], _ => rfl⟩
  have O28 : FnG l.prog w K mg base CX0 2 f28 _ ["base", "n"] (sp_f_power_of K) := ok_f_power_of F28 D_f_let_by m_int c_MOST_BITS
  have D_f_power_of : Def l.prog w K mg base CX0 "power_of" 2 ["base", "n"] (sp_f_power_of K) := ⟨f28, _, PySem.W.mg_of X G a28, O28, k28, F28.binds (ps := ["base", "n"]) fun _ _ _ _ _ _ us hl => match us, hl with | [_, _], _ => rfl⟩
  have O29 : FnG l.prog w K mg base CX0 2 f29 _ ["one", "other"] (sp_f_product K) := ok_f_product F29 D_f_let_by c_MOST_BITS
  have D_f_product : Def l.prog w K mg base CX0 "product" 2 ["one", "other"] (sp_f_product K) := ⟨f29, _, PySem.W.mg_of X G a29, O29, k29, F29.binds (ps := ["one", "other"]) fun _ _ _ _ _ _ us hl => match us, hl with | [_, _], _ => rfl⟩
  have O30 : FnG l.prog w K mg base CX0 3 f30 _ ["word", "one", "other"] (sp_f_come_to K) := ok_f_come_to F30 D_f_power_of D_f_let_by D_f_product
  have D_f_come_to : Def l.prog w K mg base CX0 "come_to" 3 ["word", "one", "other"] (sp_f_come_to K) := ⟨f30, _, PySem.W.mg_of X G a30, O30, k30, F30.binds (ps := ["word", "one", "other"]) fun _ _ _ _ _ _ us hl => match us, hl with | [_, _, _], _ => rfl⟩
  have O31 : FnG l.prog w K mg base CX0 1 f31 _ ["name", "answer"] (sp_f_number_of K) := ok_f_number_of F31
  have D_f_number_of : Def l.prog w K mg base CX0 "number_of" 1 ["name", "answer"] (sp_f_number_of K) := ⟨f31, _, PySem.W.mg_of X G a31, O31, k31, F31.binds (ps := ["name", "answer"]) fun _ _ _ _ _ _ us hl => match us, hl with | [_, _], _ => rfl⟩
  have O32 : FnG l.prog w K mg base CX0 4 f32 _ ["term", "answer"] (sp_f_worth K) := ok_f_worth F32 D_f_come_to D_f_let_by D_f_number_of m_len
  have D_f_worth : Def l.prog w K mg base CX0 "worth" 4 ["term", "answer"] (sp_f_worth K) := ⟨f32, _, PySem.W.mg_of X G a32, O32, k32, F32.binds (ps := ["term", "answer"]) fun _ _ _ _ _ _ us hl => match us, hl with | [_, _], _ => rfl⟩
  have O33 : FnG l.prog w K mg base CX0 5 f33 _ ["saying", "answer"] (sp_f_holds K) := ok_f_holds F33 D_f_worth D_f_fits
  have D_f_holds : Def l.prog w K mg base CX0 "holds" 5 ["saying", "answer"] (sp_f_holds K) := ⟨f33, _, PySem.W.mg_of X G a33, O33, k33, F33.binds (ps := ["saying", "answer"]) fun _ _ _ _ _ _ us hl => match us, hl with | [_, _], _ => rfl⟩
  have DK_f_holds_answer_saying : DefK l.prog w K mg base CX0 "holds" 5 ["saying", "answer"] ["answer", "saying"] gk_f_holds_answer_saying (sp_f_holds K) := ⟨f33, _, _, PySem.W.mg_of X G a33, O33, k33, kb_f_holds_answer_saying F33⟩
  have O34 : FnG l.prog w K mg base CX0 5 f34 _ ["saying", "answer"] (sp_f_off K) := ok_f_off F34 D_f_worth D_f_stands_out
  have D_f_off : Def l.prog w K mg base CX0 "off" 5 ["saying", "answer"] (sp_f_off K) := ⟨f34, _, PySem.W.mg_of X G a34, O34, k34, F34.binds (ps := ["saying", "answer"]) fun _ _ _ _ _ _ us hl => match us, hl with | [_, _], _ => rfl⟩
  have DK_f_off_answer_saying : DefK l.prog w K mg base CX0 "off" 5 ["saying", "answer"] ["answer", "saying"] gk_f_off_answer_saying (sp_f_off K) := ⟨f34, _, _, PySem.W.mg_of X G a34, O34, k34, kb_f_off_answer_saying F34⟩
  have O35 : FnG l.prog w K mg base CX0 6 f35 _ ["sayings", "answer"] (sp_f_first_wrong K) := ok_f_first_wrong F35 D_f_holds m_enumerate
  have D_f_first_wrong : Def l.prog w K mg base CX0 "first_wrong" 6 ["sayings", "answer"] (sp_f_first_wrong K) := ⟨f35, _, PySem.W.mg_of X G a35, O35, k35, F35.binds (ps := ["sayings", "answer"]) fun _ _ _ _ _ _ us hl => match us, hl with | [_, _], _ => rfl⟩
  have DK_f_first_wrong_answer_sayings : DefK l.prog w K mg base CX0 "first_wrong" 6 ["sayings", "answer"] ["answer", "sayings"] gk_f_first_wrong_answer_sayings (sp_f_first_wrong K) := ⟨f35, _, _, PySem.W.mg_of X G a35, O35, k35, kb_f_first_wrong_answer_sayings F35⟩
  have O36 : FnG l.prog w K mg base CX0 6 f36 _ ["sayings", "answer"] (sp_f_far_off K) := ok_f_far_off F36 D_f_off m_sum
  have D_f_far_off : Def l.prog w K mg base CX0 "far_off" 6 ["sayings", "answer"] (sp_f_far_off K) := ⟨f36, _, PySem.W.mg_of X G a36, O36, k36, F36.binds (ps := ["sayings", "answer"]) fun _ _ _ _ _ _ us hl => match us, hl with | [_, _], _ => rfl⟩
  have DK_f_far_off_answer_sayings : DefK l.prog w K mg base CX0 "far_off" 6 ["sayings", "answer"] ["answer", "sayings"] gk_f_far_off_answer_sayings (sp_f_far_off K) := ⟨f36, _, _, PySem.W.mg_of X G a36, O36, k36, kb_f_far_off_answer_sayings F36⟩
  have O37 : FnG l.prog w K mg base CX0 1 f37 _ ["self", "other"] (sp_f_Saying__eq K) := ok_f_Saying__eq F37 n_Saying SC_Saying OC_Saying m_isinstance
  have M_Saying_eq : DefO l.prog w K mg base CX0 C_Saying "__eq__" 1 ["self", "other"] (sp_f_Saying__eq K) := ⟨f37, _, a37, i37, O37, F37.binds (ps := ["self", "other"]) fun _ _ _ _ _ _ us hl => match us, hl with | [_, _], _ => rfl⟩
  have O38 : FnG l.prog w K mg base CX0 9 f38 _ ["first", "second", "word"] (sp_f_law_looking_right K) := ok_f_law_looking_right F38 G_Saying SC_Saying M_Saying_eq OC_Saying DK_f_renamed_names_saying DK_f_holds_answer_saying DK_f_off_answer_saying DK_f_first_wrong_answer_sayings DK_f_far_off_answer_sayings m_int
  have D_f_law_looking_right : Def l.prog w K mg base CX0 "_law_looking_right" 9 ["first", "second", "word"] (sp_f_law_looking_right K) := ⟨f38, _, PySem.W.mg_of X G a38, O38, k38, F38.binds (ps := ["first", "second", "word"]) fun _ _ _ _ _ _ us hl => match us, hl with | [_, _, _], _ => rfl⟩
  exact ok_f_law F39 D_f_law_box D_f_law_take G_Saying SC_Saying D_f_either D_f_made_one D_f_law_figures_right D_f_law_bits_right D_f_law_choosing_right D_f_law_looking_right M_Saying_eq OC_Saying DK_f_either_other_one DK_f_made_one_sayings m_range m_max m_min m_len
end Rs
open PySem PySem.W PyProof.Rows
set_option maxHeartbeats 0 in
theorem PySem.Challenge.cw_runsums_k88_arguments_by_names_holds : PySem.Challenge.rw_runsums_k88_arguments_by_names.Holds := by
  w_on; o_law; k_head; (case hw => w_witness2)
  k_fill
  refine Rs.walk_g (l := PySem.Challenge.rw_runsums_k88_arguments_by_names) (n := 63) (k := 10) (x := "script") (CX := fun _ => L2.CX0) (sp := fun w => Rs.sp_f_law _) rfl (by decide) rfl ⟨⟨rfl, by decide, by decide⟩, rfl, by decide⟩ (fun w h Y => PySem.W.kIn_of Y) ?F (fun _ _ a ns hl hO hS => ⟨a, ns, rfl, Rs.SqF.of hO hS, hl, fun _ => rfl⟩) (fun _ _ _ _ _ h => h)
  case F =>
    intro w mg fa h KX G hmg
    refine' Rs.all_mk KX G hmg ?g_Saying ?mk_Saying ?kc_Saying ?pg_Saying ?hd_Saying ?po_Saying ?sa_Saying ?o1_Saying ?o2_Saying ?o3_Saying ?o6_Saying ?na_Saying_word ?na_Saying_left ?na_Saying_right ?o4 ?o5 ?a0 ?l0 ?c0 ?k0 ?a1 ?l1 ?c1 ?k1 ?a2 ?i2 ?l2 ?c2 ?k2 ?a3 ?l3 ?c3 ?k3 ?a4 ?l4 ?c4 ?k4 ?a5 ?l5 ?c5 ?k5 ?a6 ?l6 ?c6 ?k6 ?a7 ?l7 ?c7 ?k7 ?a8 ?l8 ?c8 ?k8 ?a9 ?l9 ?c9 ?k9 ?a10 ?l10 ?c10 ?k10 ?a11 ?l11 ?c11 ?k11 ?a12 ?l12 ?c12 ?k12 ?a13 ?l13 ?c13 ?k13 ?a14 ?l14 ?c14 ?k14 ?a15 ?l15 ?c15 ?k15 ?a16 ?l16 ?c16 ?k16 ?a17 ?l17 ?c17 ?k17 ?a18 ?l18 ?c18 ?k18 ?a19 ?l19 ?c19 ?k19 ?a20 ?l20 ?c20 ?k20 ?a21 ?l21 ?c21 ?k21 ?a22 ?l22 ?c22 ?k22 ?a23 ?l23 ?c23 ?k23 ?a24 ?l24 ?c24 ?k24 ?a25 ?l25 ?c25 ?k25 ?a26 ?l26 ?c26 ?k26 ?a27 ?l27 ?c27 ?k27 ?a28 ?l28 ?c28 ?k28 ?a29 ?l29 ?c29 ?k29 ?a30 ?l30 ?c30 ?k30 ?a31 ?l31 ?c31 ?k31 ?a32 ?l32 ?c32 ?k32 ?a33 ?l33 ?c33 ?k33 ?a34 ?l34 ?c34 ?k34 ?a35 ?l35 ?c35 ?k35 ?a36 ?l36 ?c36 ?k36 ?a37 ?i37 ?l37 ?c37 ?k37 ?a38 ?l38 ?c38 ?k38 ?a39 ?l39 ?c39 ?k39 ?z_len ?z_int ?z_enumerate ?z_range ?z_reversed ?z_str ?z_sum ?z_isinstance ?z_max ?z_min ?y_WORDS ?ld_WORDS ?kl_WORDS ?sm_WORDS ?v_WORDS_0 ?v_WORDS_1 ?y_TWO ?lt_TWO ?vt_TWO ?y_MOST_BITS ?z_nd
    (case g_Saying => k_is)
    (case mk_Saying => k_is)
    (case kc_Saying => k_is)
    (case pg_Saying => k_is)
    (case hd_Saying => k_is)
    (case po_Saying => k_is)
    (case sa_Saying => k_is)
    (case o1_Saying => k_is)
    (case o2_Saying => k_is)
    (case o3_Saying => k_is)
    (case o6_Saying => exact if_pos (beq_self_eq_true _))
    (case na_Saying_word => k_is)
    (case na_Saying_left => k_is)
    (case na_Saying_right => k_is)
    (case o4 => k_is)
    (case o5 => k_is)
    (case a0 => k_is)
    (case l0 => k_is)
    (case c0 => k_is)
    (case k0 => k_is)
    (case a1 => k_is)
    (case l1 => k_is)
    (case c1 => k_is)
    (case k1 => k_is)
    (case a2 => k_is)
    (case i2 => k_is)
    (case l2 => k_is)
    (case c2 => k_is)
    (case k2 => k_is)
    (case a3 => k_is)
    (case l3 => k_is)
    (case c3 => k_is)
    (case k3 => k_is)
    (case a4 => k_is)
    (case l4 => k_is)
    (case c4 => k_is)
    (case k4 => k_is)
    (case a5 => k_is)
    (case l5 => k_is)
    (case c5 => k_is)
    (case k5 => k_is)
    (case a6 => k_is)
    (case l6 => k_is)
    (case c6 => k_is)
    (case k6 => k_is)
    (case a7 => k_is)
    (case l7 => k_is)
    (case c7 => k_is)
    (case k7 => k_is)
    (case a8 => k_is)
    (case l8 => k_is)
    (case c8 => k_is)
    (case k8 => k_is)
    (case a9 => k_is)
    (case l9 => k_is)
    (case c9 => k_is)
    (case k9 => k_is)
    (case a10 => k_is)
    (case l10 => k_is)
    (case c10 => k_is)
    (case k10 => k_is)
    (case a11 => k_is)
    (case l11 => k_is)
    (case c11 => k_is)
    (case k11 => k_is)
    (case a12 => k_is)
    (case l12 => k_is)
    (case c12 => k_is)
    (case k12 => k_is)
    (case a13 => k_is)
    (case l13 => k_is)
    (case c13 => k_is)
    (case k13 => k_is)
    (case a14 => k_is)
    (case l14 => k_is)
    (case c14 => k_is)
    (case k14 => k_is)
    (case a15 => k_is)
    (case l15 => k_is)
    (case c15 => k_is)
    (case k15 => k_is)
    (case a16 => k_is)
    (case l16 => k_is)
    (case c16 => k_is)
    (case k16 => k_is)
    (case a17 => k_is)
    (case l17 => k_is)
    (case c17 => k_is)
    (case k17 => k_is)
    (case a18 => k_is)
    (case l18 => k_is)
    (case c18 => k_is)
    (case k18 => k_is)
    (case a19 => k_is)
    (case l19 => k_is)
    (case c19 => k_is)
    (case k19 => k_is)
    (case a20 => k_is)
    (case l20 => k_is)
    (case c20 => k_is)
    (case k20 => k_is)
    (case a21 => k_is)
    (case l21 => k_is)
    (case c21 => k_is)
    (case k21 => k_is)
    (case a22 => k_is)
    (case l22 => k_is)
    (case c22 => k_is)
    (case k22 => k_is)
    (case a23 => k_is)
    (case l23 => k_is)
    (case c23 => k_is)
    (case k23 => k_is)
    (case a24 => k_is)
    (case l24 => k_is)
    (case c24 => k_is)
    (case k24 => k_is)
    (case a25 => k_is)
    (case l25 => k_is)
    (case c25 => k_is)
    (case k25 => k_is)
    (case a26 => k_is)
    (case l26 => k_is)
    (case c26 => k_is)
    (case k26 => k_is)
    (case a27 => k_is)
    (case l27 => k_is)
    (case c27 => k_is)
    (case k27 => k_is)
    (case a28 => k_is)
    (case l28 => k_is)
    (case c28 => k_is)
    (case k28 => k_is)
    (case a29 => k_is)
    (case l29 => k_is)
    (case c29 => k_is)
    (case k29 => k_is)
    (case a30 => k_is)
    (case l30 => k_is)
    (case c30 => k_is)
    (case k30 => k_is)
    (case a31 => k_is)
    (case l31 => k_is)
    (case c31 => k_is)
    (case k31 => k_is)
    (case a32 => k_is)
    (case l32 => k_is)
    (case c32 => k_is)
    (case k32 => k_is)
    (case a33 => k_is)
    (case l33 => k_is)
    (case c33 => k_is)
    (case k33 => k_is)
    (case a34 => k_is)
    (case l34 => k_is)
    (case c34 => k_is)
    (case k34 => k_is)
    (case a35 => k_is)
    (case l35 => k_is)
    (case c35 => k_is)
    (case k35 => k_is)
    (case a36 => k_is)
    (case l36 => k_is)
    (case c36 => k_is)
    (case k36 => k_is)
    (case a37 => k_is)
    (case i37 => k_is)
    (case l37 => k_is)
    (case c37 => k_is)
    (case k37 => k_is)
    (case a38 => k_is)
    (case l38 => k_is)
    (case c38 => k_is)
    (case k38 => k_is)
    (case a39 => k_is)
    (case l39 => k_is)
    (case c39 => k_is)
    (case k39 => k_is)
    (case z_len => k_is)
    (case z_int => k_is)
    (case z_enumerate => k_is)
    (case z_range => k_is)
    (case z_reversed => k_is)
    (case z_str => k_is)
    (case z_sum => k_is)
    (case z_isinstance => k_is)
    (case z_max => k_is)
    (case z_min => k_is)
    (case y_WORDS => k_is)
    (case ld_WORDS => k_is)
    (case kl_WORDS => exact ⟨⟨_, _, rfl, rfl⟩, ⟨_, _, rfl, rfl⟩, trivial⟩)
    (case sm_WORDS => first | rfl | decide)
    (case v_WORDS_0 => k_is)
    (case v_WORDS_1 => k_is)
    (case y_TWO => k_is)
    (case lt_TWO => k_is)
    (case vt_TWO => exact ⟨by decide, (.cons ⟨_, rfl⟩ (.cons ⟨_, rfl⟩ .nil))⟩)
    (case y_MOST_BITS => k_is)
    (case z_nd => (unfold Rs.NoDig; k_is))
