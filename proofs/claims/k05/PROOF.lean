import PyProof.Rows.All
import Wide.All
import OpenK.AllK
import Wide.FinOn
import HandS.ForMost
import HandS.ForExc
import HandS.Flow
import HandS.Style
import HandS.Wide
import HandS.WideMore
import HandS.WideBits
import HandS.IsInst
import HandS.Rev
import HandS.Walk
import HandS.IntHex
import HandS.SortKw
import KE.GoesEnumKw
import HandS.Zip
import KE.GoesMore
import HandS.More
import HandS.DictComp
import HandS.ListItems
import HandS.TupAny
import HandS.Defaults
import PyProof.P3Eq
import HandS.FStr
import HandS.OwnEq
import HandS.RaiseMore
import PyProof.StrLaws
import HandS.StrMore
import KE.GoesEnum
import PySem.Challenge.RW_runsums_k05_whole_programs_written_and_r
set_option Elab.async false
set_option linter.all false
set_option maxRecDepth 100000
set_option maxHeartbeats 4000000
set_option exponentiation.threshold 20000

namespace Rs
open PySem L2 PyProof.Rows
abbrev Sm := L2.Same
/-! ### rules side by side -/
section
variable {X : Cx}
theorem op_or {f : Value → Value → Sem Value} {r r' : R2} (h : OpR X f r) (h' : OpR X f r') : OpR X f (fun x y H Q => r x y H Q ∨ r' x y H Q) := by
  intro pins s σ H x y v u Q I rx ry q
  rcases q with q | q
  · exact h pins s σ H x y v u Q I rx ry q
  · exact h' pins s σ H x y v u Q I rx ry q
theorem cr_or {f : Value} {r r' : List V → Hp → VK → Prop} (h : CallR X f r) (h' : CallR X f r') : CallR X f (fun xs H Q => r xs H Q ∨ r' xs H Q) := by
  intro pins s σ H xs us Q I rx q
  rcases q with q | q
  · exact h pins s σ H xs us Q I rx q
  · exact h' pins s σ H xs us Q I rx q
def gAdd (K : PySem.W.Frag) : R2 := fun x y H Q => rI0 (fun i j => .int (i + j)) x y H Q ∨ ((∃ i j, x = .str i ∧ y = .str j ∧ i.length + j.length ≤ sizeLine ∧ Q (.str (i ++ j)) H) ∨ (rCat x y H Q ∨ rCatA K x y H Q))
theorem op_gAdd {K : PySem.W.Frag} (hK : X.K = K) : OpR X (binaryOp .Add) (gAdd K) := by subst hK; exact op_or op_add (op_or op_add_str (op_or op_cat op_catA))
def CM (i j : Int) : Prop := CMul i j ∨ CMulX i j
def gMul : R2 := fun x y H Q => rI CMul (fun i j => .int (i * j)) x y H Q ∨ (rI CMulX (fun i j => .int (i * j)) x y H Q ∨ rRep x y H Q)
theorem op_gMul : OpR X (binaryOp .Mult) gMul := op_or op_mul (op_or op_mulX op_rep)
def gMulS : R2 := fun x y H Q => ∃ a n, x = .str a ∧ y = .int n ∧ MulOk a n ∧ Q (.str (Txt.mul a n)) H
theorem op_gMulS : OpR X (binaryOp .Mult) gMulS := by
  intro pins s σ H x y u v Q I rx ry h
  obtain ⟨a, n, rfl, rfl, hok, q⟩ := h
  obtain ⟨t, rfl⟩ := rx
  obtain ⟨t', rfl⟩ := ry
  exact SB.mul hok fun t' k => ⟨.str _, H, I.tok _, ⟨_, rfl⟩, q⟩
def gDiv : R2 := fun x y H Q => rI CDivW (fun i j => .int (i / j)) x y H Q
theorem op_gDiv : OpR X (binaryOp .FloorDiv) gDiv := op_fdivW
def gMod : R2 := rI (fun _ j => 0 < j) fun i j => .int (i % j)
theorem op_gMod : OpR X (binaryOp .Mod) gMod := op_mod
def gShl : R2 := rI CShl fun i j => .int (i * 2 ^ j.toNat)
theorem op_gShl : OpR X (binaryOp .LShift) gShl := op_shlW
def gPow : R2 := rI CPow fun i j => .int (i ^ j.toNat)
theorem op_gPow : OpR X (binaryOp .Pow) gPow := op_pow
def gShr : R2 := rI (fun _ j => 0 ≤ j) fun i j => .int (i / 2 ^ j.toNat)
theorem op_gShr : OpR X (binaryOp .RShift) gShr := op_shr
def gAnd : R2 := rI0 fun i j => .int (Builtin.bitAnd i j)
theorem op_gAnd : OpR X (binaryOp .BitAnd) gAnd := op_and
def gLt : R2 := rI0 fun i j => .bl (decide (i < j))
theorem op_gLt : OpR X (compareOp .Lt) gLt := op_lt
def gLe : R2 := rI0 fun i j => .bl (decide (i ≤ j))
theorem op_gLe : OpR X (compareOp .LtE) gLe := op_le
def gGt : R2 := rI0 fun i j => .bl (decide (j < i))
theorem op_gGt : OpR X (compareOp .Gt) gGt := op_gt
def gGe : R2 := rI0 fun i j => .bl (decide (j ≤ i))
theorem op_gGe : OpR X (compareOp .GtE) gGe := op_ge
def gEq (K : PySem.W.Frag) : R2 := fun x y H Q => rEq x y H Q ∨ rEqD K x y H Q
theorem op_gEq {K : PySem.W.Frag} (hK : X.K = K) (hu : X.A.units + 64 < cLine) : OpR X (compareOp .Eq) (gEq K) := by subst hK; exact op_or op_eq (op_eqD hu)
def gNe (K : PySem.W.Frag) : R2 := fun x y H Q => rNe x y H Q ∨ rNeD K x y H Q
theorem op_gNe {K : PySem.W.Frag} (hK : X.K = K) (hu : X.A.units + 64 < cLine) : OpR X (compareOp .NotEq) (gNe K) := by subst hK; exact op_or op_ne (op_neD hu)
def gLen (K : PySem.W.Frag) : List V → Hp → VK → Prop := fun xs H Q => (∃ p ys, xs = [.ref p] ∧ (SqL K H p ys ∨ SqT K H p ys) ∧ Q (.int ys.length) H) ∨ (∃ z, xs = [.str z] ∧ z.length ≤ sizeLine ∧ Q (.int z.length) H)
theorem call_gLen {K : PySem.W.Frag} (hK : X.K = K) : CallR X (.builtin "len") (gLen K) := by subst hK; exact cr_or call_len_seq call_len_str
theorem call_gIsi {K : PySem.W.Frag} (hK : X.K = K) : CallR X (.builtin "isinstance") (rIsi K) := by subst hK; exact call_isi
theorem ix_g {K : PySem.W.Frag} (hK : X.K = K) : IxR X (rIx K) := by subst hK; exact ix_seq
def gSl (K : PySem.W.Frag) : V → Option Int → Option Int → Hp → VK → Prop := fun x lo hi H Q => rSlL K x lo hi H Q ∨ rSlA K x lo hi H Q
theorem sl_gl {K : PySem.W.Frag} (hK : X.K = K) : SlR X (gSl K) := by subst hK; exact SlR.or sl_list sl_tupA
theorem sl_gt {K : PySem.W.Frag} (hK : X.K = K) : SlR X (rSlT K) := by subst hK; exact sl_tup
theorem pi_gl {K : PySem.W.Frag} (hK : X.K = K) {tg l : Expr} {tl : TE} (hl : PE X l tl) : PI X tg l (iList K tl) := by subst hK; exact pi_list hl
theorem pi_gt {K : PySem.W.Frag} (hK : X.K = K) {tg l : Expr} {tl : TE} (hl : PE X l tl) : PI X tg l (iTup K tl) := by subst hK; exact pi_tup hl
theorem op_gInSeq {K : PySem.W.Frag} (hK : X.K = K) : OpR X (compareOp .In) (rIn K false) := by subst hK; exact op_in_seq
theorem op_gNotInSeq {K : PySem.W.Frag} (hK : X.K = K) : OpR X (compareOp .NotIn) (rIn K true) := by subst hK; exact op_notIn_seq
def gTup2 (K : PySem.W.Frag) (n : Nat) (t : TGs) : TG := gTup K n t
theorem pg_gt {K : PySem.W.Frag} (hK : X.K = K) {es : List Expr} {k : Nat} {pos : Pos} {t : TGs} {n : Nat} (hc : X.calm = true) (h : PGs X es t) (hl : (assignEach es X.env).length = n := by rfl) (hst : (assignEach es X.env).findIdx? (·.1) = none := by rfl) :
    PG X (.Tuple es k pos) (gTup2 K n t) := by subst hK; exact pg_tup hc h hl hst
theorem pe_gbm {K : PySem.W.Frag} (hK : X.K = K) {o e : Expr} {es : List Expr} {to : TE} {t : TA} {name : Str} {apos cpos : Pos} {T id : String} {r : V → List V → Hp → VK → Prop} (pa : PlainAttrs T) (slot : Slot T name id) (hty : typeOf (.builtin id) = pure (.type "method_descriptor")) (hm : MtR X id r) (ho : PE X o to) (ha : PA X (e :: es) t)
    (hbase : attributeBase o name X.env (eval o X.env) = eval o X.env := by rfl)
    (hfew : ((backTo cpos (starEach (e :: es) X.env)).all (fun x => !x.1) && (backToKw cpos (keywordEach [] X.env)).all (fun x => x.1.isSome)
      && decide ((e :: es).length + ([] : List Keyword).length + (if ([] : List Keyword).isEmpty then 0 else 1) < 30)) = true := by rfl)
    (hline : (apos.endLine == cpos.line) = true := by rfl) (hs : starEach (e :: es) X.env = (false, eval e X.env) :: starEach es X.env := by rfl) (hplain : (backTo cpos (starEach es X.env)).any (·.1) = false := by rfl) :
    PE X (.Call (.Attribute o name apos) (e :: es) [] cpos) (tBM K T r to t) := by subst hK; exact pe_bm pa slot hty hm ho ha hbase hfew hline hs hplain
theorem pe_gbm0 {K : PySem.W.Frag} (hK : X.K = K) {o : Expr} {to : TE} {name : Str} {apos cpos : Pos} {T id : String} {r : V → List V → Hp → VK → Prop} (pa : PlainAttrs T) (slot : Slot T name id) (hty : typeOf (.builtin id) = pure (.type "method_descriptor")) (hm : MtR X id r) (ho : PE X o to)
    (hbase : attributeBase o name X.env (eval o X.env) = eval o X.env := by rfl) (hline : (apos.endLine == cpos.line) = true := by rfl) : PE X (.Call (.Attribute o name apos) [] [] cpos) (tBM0 K T r to) := by subst hK; exact pe_bm0 pa slot hty hm ho hbase hline
def gTpl (K : PySem.W.Frag) : List V → Hp → VK → Prop := (fun xs H Q => ∃ p ys, xs = [.ref p] ∧ ((SqL K H p ys ∧ ∀ l, H l = none → Q (.ref l) (upd H l (.tup ys))) ∨ (SqT K H p ys ∧ Q (.ref p) H)))
def gLst (K : PySem.W.Frag) : List V → Hp → VK → Prop := (fun xs H Q => ∃ p ys, xs = [.ref p] ∧ (SqL K H p ys ∨ SqT K H p ys) ∧ ∀ l, H l = none → Q (.ref l) (upd H l (.lst ys)))
theorem call_gTuple {K : PySem.W.Frag} (hK : X.K = K) : CallR X (.type "tuple") (gTpl K) := by subst hK; exact call_tuple_of
theorem call_gList {K : PySem.W.Frag} (hK : X.K = K) : CallR X (.type "list") (gLst K) := by subst hK; exact call_list_of
theorem iop_mulX : OpR X (inplaceOp .Mult) (rI CMulX fun i j => .int (i * j)) := opI fun _ _ _ _ _ _ _ hc q => imul_int q hc.ok
def gIAdd : R2 := fun x y H Q => rI0 (fun i j => .int (i + j)) x y H Q ∨ (∃ i j, x = .str i ∧ y = .str j ∧ i.length + j.length ≤ sizeLine ∧ Q (.str (i ++ j)) H)
def gIMul : R2 := fun x y H Q => rI CMul (fun i j => .int (i * j)) x y H Q ∨ rI CMulX (fun i j => .int (i * j)) x y H Q
def gXor : R2 := rI0 fun i j => .int (Builtin.bitXor i j)
theorem ip_gAdd : PIp X .Add gIAdd := op_or iop_add iop_add_str
theorem ip_gMul : PIp X .Mult gIMul := op_or iop_mul iop_mulX
theorem ip_gDiv : PIp X .FloorDiv gDiv := iop_fdivW
theorem ip_gShr : PIp X .RShift gShr := iop_shr
theorem ip_gShl : PIp X .LShift gShl := iop_shlW
theorem op_gXor {X : Cx} : OpR X (binaryOp .BitXor) gXor := op_xor
theorem ip_gXor : PIp X .BitXor gXor := iop_xor
theorem ip_gAnd : PIp X .BitAnd gAnd := iop_and
theorem ip_gSub : PIp X .Sub (rI0 fun i j => .int (i - j)) := iop_sub
def gIntC : List V → Hp → VK → Prop := fun xs H Q => (∃ i, xs = [.int i] ∧ Q (.int i) H) ∨ ∃ k, xs = [.bl k] ∧ Q (.int (if k then 1 else 0)) H
theorem call_gInt : CallR X (.type "int") gIntC := call_int1
def gMax : List V → Hp → VK → Prop := fun xs H Q => ∃ i j, xs = [.int i, .int j] ∧ Q (.int (if j > i then j else i)) H
theorem call_gMax (hc : X.calm = true) : CallR X (.builtin "max") gMax := call_max2 hc
def gMin : List V → Hp → VK → Prop := fun xs H Q => ∃ i j, xs = [.int i, .int j] ∧ Q (.int (if j < i then j else i)) H
theorem call_gMin (hc : X.calm = true) : CallR X (.builtin "min") gMin := call_min2 hc
end
/-! ### a def's promise where nothing is being shown (no repr under way) -/
structure RoomG (k : Nat) (A : Around) : Prop where
  rm : Room k A
  gd : A.guards = some []
  un : A.units + 16 * k + 6000 < cLine
theorem RoomG.mono {j k : Nat} {A : Around} (r : RoomG k A) (h : j ≤ k) : RoomG j A := ⟨r.rm.mono h, r.gd, by have := r.un; omega⟩
theorem RoomG.units {k : Nat} {A : Around} (r : RoomG k A) : A.units + 64 < cLine := r.rm.units
theorem RoomG.big {k : Nat} {A : Around} (r : RoomG k A) : A.units + 5000 < cLine := by have := r.un; omega
theorem RoomG.down {k : Nat} {A : Around} (r : RoomG (k + 1) A) (v : Env) : RoomG k (A.deeper v) := ⟨r.rm.deeper v, r.gd, by have := r.un; show A.units + 3 + 16 * k + 6000 < _; omega⟩
theorem RoomG.in1 {k : Nat} {A : Around} (r : RoomG (k + 1) A) : RoomG k A.in1 := ⟨r.rm.in1, r.gd, by have := r.un; show A.units + 1 + 16 * k + 6000 < _; omega⟩
structure FnG (P : Program) (w : World) (K : PySem.W.Frag) (mg : Str → Option Value) (base : Heap) (CX : CXT) (k : Nat) (f : Addr) (fd : FuncData) (ps : List Str) (sp : Sp) : Prop where
  ln : ∀ vs H Q E, sp vs H Q E → vs.length = ps.length
  go : ∀ (A : Around) (ou : List Env) (z : Shared) (H : Hp) (ar : Args) (us : List Value) (vs : List V) (Q : VK) (E : XK), RoomG k A → Env0 P w K mg base A ou z H → BindsTo z fd ar (ps.zip us) → Vals vs us → sp vs H Q E →
    codeAny (model P w) A (.call (.ref f) ar) (CR CX ou P w H z Q E) z
theorem FnG.of {P : Program} {w : World} {K : PySem.W.Frag} {mg : Str → Option Value} {base : Heap} {CX : CXT} {k : Nat} {f : Addr} {fd : FuncData} {ps : List Str} {sp : Sp} (F : FnOk P w K mg base CX k f fd ps sp) : FnG P w K mg base CX k f fd ps sp :=
  ⟨F.len, fun A ou z H ar us vs Q E hr => F.run A ou z H ar us vs Q E hr.rm⟩
/-- a call's end is what the caller wants -/
theorem aft {X : Cx} {CX : CXT} {pins : List (Addr × Obj)} {σ : L2.St} {H : Hp} {s : Shared} {Q : VK} {E : XK} (hx : Passes CX X E) (I : Inv X pins σ H s) {r : Result} {z : Shared} (h : CR CX X.stack X.prog X.w H s Q E r z) :
    callEnd (EP X pins σ Q) X.xe r z := by
  cases r with
  | error e => exact hx pins σ H s e z I h
  | ok fl => cases fl with
    | ret u => exact I.after h
    | next => exact h.elim
    | brk => exact h.elim
    | cont => exact h.elim
theorem run_g {X : Cx} {CX : CXT} {k : Nat} {f : Addr} {fd : FuncData} {ps : List Str} {sp : Sp} {E : XK} {pins : List (Addr × Obj)} {σ : L2.St} {H : Hp} {s : Shared} {Q : VK} {us : List Value} {vs : List V}
    (F : FnG X.prog X.w X.K X.mg X.base CX k f fd ps sp) (hr : RoomG k X.A) (hb : Binds X.K fd ps []) (hx : Passes CX X E) (I : Inv X pins σ H s) (r : Vals vs us) (h : sp (vs ++ []) H Q E) : wpAny (model X.prog X.w) X.A (call (.ref f) us) (EP X pins σ Q) X.xe s := by
  have q := r.append (show Vals [] [] from .nil)
  exact wpAny_call (codeAny_mono (F.go X.A X.stack s H ⟨us, []⟩ (us ++ []) (vs ++ []) Q E hr I.env0 (hb s us I.kIn (q.length.symm.trans (F.ln _ _ _ _ h))) q h) fun _ _ y => aft hx I y)
theorem run_gk {X : Cx} {CX : CXT} {k : Nat} {f : Addr} {fd : FuncData} {ps ks : List Str} {sp : Sp} {g : List Value → List Value → List Value} {gV : List V → List V → List V} {E : XK} {pins : List (Addr × Obj)} {σ : L2.St} {H : Hp} {s : Shared} {Q : VK} {us ws : List Value} {vs zs : List V}
    (F : FnG X.prog X.w X.K X.mg X.base CX k f fd ps sp) (hr : RoomG k X.A) (hb : KBinds X.K fd ps ks g gV) (hx : Passes CX X E) (I : Inv X pins σ H s) (r : Vals vs us) (rz : Vals zs ws) (h : sp (gV vs zs) H Q E) :
    wpAny (model X.prog X.w) X.A (call (.ref f) us (ks.zip ws)) (EP X pins σ Q) X.xe s := by
  have q := hb.rel r rz
  exact wpAny_call (codeAny_mono (F.go X.A X.stack s H ⟨us, ks.zip ws⟩ (g us ws) (gV vs zs) Q E hr I.env0 (hb.to s us ws I.kIn (q.length.symm.trans (F.ln _ _ _ _ h))) q h) fun _ _ y => aft hx I y)
theorem fn_g {CX : CXT} {P : Program} {w : World} {K : PySem.W.Frag} {mg : Str → Option Value} {base : Heap} {k : Nat} {f : Addr} {nm qu : Str} {pr : Arguments} {bd : List Stmt} {sc : Scope} {dV kV dc pm cd ct oc : Value} {an od : Option Addr} {sl : Array (Option Value)} {N ps : List Str} {sp : Sp}
    (lk : K.lookup f = some ⟨oc, od, .func (PySem.W.fnOf nm qu pr bd sc dV kV dc pm an cd ct), sl⟩) (hc : PySem.W.codeIn K cd qu = true) (S : FnScope N ps sc) (ln : ∀ vs H Q E, sp vs H Q E → vs.length = ps.length)
    (hb : ∀ (A : Around) (ou : List Env) (z : Shared) (H : Hp) (vs : List V) (Q : VK) (E : XK), RoomG k (A.deeper (envOfC qu sc z.heap.objs.size f cd)) → sp vs H Q E → ∃ t, PSs (cxOf CX P w K mg base N qu sc f cd A ou z H E) bd t ∧ t { nx := fun _ H' => Q .non H', rt := Q } (start N vs) H) :
    FnG P w K mg base CX (k + 1) f (PySem.W.fnOf nm qu pr bd sc dV kV dc pm an cd ct) ps sp := by
  refine ⟨ln, fun A ou z H ar us vs Q E hr e0 bt r hs => ?_⟩
  have hl := ln _ _ _ _ hs
  have old : ∀ b o, base.get? b = some o → z.heap.get? b = some o := fun b o e => (e0.bs b o e).1
  have kz := e0.mod.kin.keeps old
  have lim := e0.mod.nolimit.keeps old
  have hk : ∀ y ∈ ps.zip us, sc.names.lookup y.1 = some .local ∨ (sc.names.lookup y.1 = some .cell ∧ ((cellsFrom (z.heap.objs.size + 1) sc.names []).lookup y.1).isSome = true) := by
    intro y hy
    rcases S.par y.1 (List.of_mem_zip hy).1 with q | q
    · exact .inl q
    · exact .inr ⟨q, PySem.W.cellsFrom_some _ _ _ (.inl q)⟩
  refine codeAny_call_function hr.rm.depth (kz _ _ lk) rfl S.co S.gen rfl (PySem.W.codeRec_of kz hc) (bt _ _ _ _ (wpAny_newFunctionEnv_cells S.kind hk fun v hv z1 x => ?_))
  subst hv
  refine ⟨lim.keeps x.toInCall.keep, codeAny_func ?_⟩
  obtain ⟨t, ht, hq⟩ := hb A ou z H vs Q E (hr.down _) hs
  refine wpAny_mono (ht.run [] z1 (start N vs) H _ (inv_start S hr.rm.hd e0 hl r x) hq) (fun fl z2 y => ?_) fun _ _ y => y
  cases fl with
  | ret u =>
    obtain ⟨v, σ', H', J, rv, q⟩ := y
    exact ⟨v, H', J.os, J.bare, J.base, J.hok, rv, q⟩
  | next =>
    obtain ⟨σ', H', J, q⟩ := y
    exact ⟨V.non, H', J.os, J.bare, J.base, J.hok, rfl, q⟩
  | brk => exact y.elim fun _ y => y.elim fun _ y => y.2.elim
  | cont => exact y.elim fun _ y => y.elim fun _ y => y.2.elim
theorem okG {CX : CXT} {P : Program} {w : World} {K : PySem.W.Frag} {mg : Str → Option Value} {base : Heap} {x qu : Str} {st : Stmt} {f : Addr} {fd : FuncData} {N ps : List Str} {k : Nat} {sp : Sp} (F : Fun K x qu st f fd) (S : FnScope N ps (defScope st)) (ln : ∀ vs H Q E, sp vs H Q E → vs.length = ps.length)
    (hb : ∀ (cd : Value) (A : Around) (ou : List Env) (z : Shared) (H : Hp) (vs : List V) (Q : VK) (E : XK), RoomG k (A.deeper (envOfC qu (defScope st) z.heap.objs.size f cd)) → sp vs H Q E →
      ∃ t, PSs (cxOf CX P w K mg base N qu (defScope st) f cd A ou z H E).nox (defBody st) t ∧ t { nx := fun _ H' => Q .non H', rt := Q } (start N vs) H) : FnG P w K mg base CX (k + 1) f fd ps sp := by
  obtain ⟨oc, od, kV, dc, pm, an, cd, ct, sl, rfl, lk, hc⟩ := F.ex
  refine fn_g lk hc S ln fun A ou z H vs Q E hr hs => ?_
  obtain ⟨t, h, q⟩ := hb cd A ou z H vs Q E hr hs
  exact ⟨t, h.nox, q⟩
/-- the same for a def with defaults -/
theorem okD {CX : CXT} {P : Program} {w : World} {K : PySem.W.Frag} {mg : Str → Option Value} {base : Heap} {x qu : Str} {st : Stmt} {dvs : List V} {f : Addr} {fd : FuncData} {N ps : List Str} {k : Nat} {sp : Sp} (F : FunD K x qu (defArgs st) (defBody st) (defScope st) dvs [] f fd) (S : FnScope N ps (defScope st)) (ln : ∀ vs H Q E, sp vs H Q E → vs.length = ps.length)
    (hb : ∀ (cd : Value) (A : Around) (ou : List Env) (z : Shared) (H : Hp) (vs : List V) (Q : VK) (E : XK), RoomG k (A.deeper (envOfC qu (defScope st) z.heap.objs.size f cd)) → sp vs H Q E →
      ∃ t, PSs (cxOf CX P w K mg base N qu (defScope st) f cd A ou z H E).nox (defBody st) t ∧ t { nx := fun _ H' => Q .non H', rt := Q } (start N vs) H) : FnG P w K mg base CX (k + 1) f fd ps sp := by
  obtain ⟨oc, od, dV, kV, dc, pm, an, cd, ct, sl, rfl, lk, hc, _, _⟩ := F.ex
  refine fn_g lk hc S ln fun A ou z H vs Q E hr hs => ?_
  obtain ⟨t, h, q⟩ := hb cd A ou z H vs Q E hr hs
  exact ⟨t, h.nox, q⟩
theorem fund_mk {K : PySem.W.Frag} {x qual : Str} {st : Stmt} {dvs : List V} {f T : Addr} {oc tc : Value} {od an td : Option Addr} {osl ts : Array (Option Value)} {kV doc pm cdv ct : Value} {ti : Array Value} {tn : Nat} (l : K.lookup f = some ⟨oc, od, .func (PySem.W.fnOf x qual (defArgs st) (defBody st) (defScope st) (.ref T) kV doc pm an cdv ct), osl⟩)
    (c : PySem.W.codeIn K cdv qual = true) (k : PySem.W.keepIn K (.ref f) = true) (lt : K.lookup T = some ⟨tc, td, .seq ti tn, ts⟩) (hv : Vals dvs ti.toList) (hd : dvs ≠ []) :
    FunD K x qual (defArgs st) (defBody st) (defScope st) dvs [] f (PySem.W.fnOf x qual (defArgs st) (defBody st) (defScope st) (.ref T) kV doc pm an cdv ct) :=
  ⟨⟨oc, od, .ref T, kV, doc, pm, an, cdv, ct, osl, rfl, l, c, .inr ⟨hd, T, _, ti.toList, tn, rfl, lt, by rw [Array.toArray_toList], hv⟩, .inl rfl⟩, k⟩
theorem kb_dfl {K : PySem.W.Frag} {x qual : Str} {params : Arguments} {body : List Stmt} {scope : Scope} {dvs : List V} {f : Addr} {fd : FuncData} {ps ks : List Str} (F : FunD K x qual params body scope dvs [] f fd) (hd : dvs ≠ []) (g : {α : Type} → List α → List α → List α → List α)
    (hrel : ∀ {vs zs : List V} {us ws its : List Value}, Vals vs us → Vals zs ws → Vals dvs its → Vals (g dvs vs zs) (g its us ws))
    (h : ∀ (T : Addr) (kV doc pm : Value) (an : Option Addr) (cdv ct : Value) (us ws its : List Value), its.length = dvs.length → (g its us ws).length = ps.length →
      ∃ k, bindArgs (PySem.W.fnOf x qual params body scope (.ref T) kV doc pm an cdv ct) ⟨us, ks.zip ws⟩ = seqItems? (.ref T) >>= k ∧ k (some its.toArray) = pure (ps.zip (g its us ws))) : ∃ g', KBinds K fd ps ks g' (fun vs zs => g dvs vs zs) := by
  obtain ⟨oc, od, dV, kV, doc, pm, an, cdv, ct, osl, rfl, lk, hcd, hD, hK⟩ := F.ex
  rcases hD with ⟨e, _⟩ | ⟨_, T, o, its, m, rfl, lT, oT, rT⟩
  · exact absurd e hd
  · refine ⟨fun us ws => g its us ws, fun s us ws X hl => ?_, fun r1 r2 => hrel r1 r2 rT⟩
    obtain ⟨k, e1, e2⟩ := h T kV doc pm an cdv ct us ws its rT.length.symm hl
    refine BindsTo.of_looks fun M => ?_
    rw [e1]
    exact looks_items X lT oT (.of_pure e2)
/-! ### a def by its name -/
structure Def (P : Program) (w : World) (K : PySem.W.Frag) (mg : Str → Option Value) (base : Heap) (CX : CXT) (name : Str) (k : Nat) (ps : List Str) (sp : Sp) : Prop where
  ex : ∃ f fd, mg name = some (.ref f) ∧ FnG P w K mg base CX k f fd ps sp ∧ PySem.W.keepIn K (.ref f) = true ∧ Binds K fd ps []
section
variable {X : Cx} {CX : CXT} {k : Nat} {ps : List Str} {sp : Sp} {x : Str} {p pos : Pos} {e : Expr} {es : List Expr} {t : TA} {E : XK}
theorem pe_f (G : Def X.prog X.w X.K X.mg X.base CX x k ps sp) (hr : RoomG k X.A) (hg : Gl X x) (hx : Passes CX X E) (ha : PA X (e :: es) t) (hdb : (x == ("__debug__" : Str)) = false := by decide)
    (he : starEach (e :: es) X.env = (false, eval e X.env) :: starEach es X.env := by rfl) (hpl : (backTo pos (starEach es X.env)).any (·.1) = false := by rfl) :
    PE X (.Call (.Name x p) (e :: es) [] pos) (tCall sp [] E t) := by
  obtain ⟨f, fd, m, F, kp, b⟩ := G.ex
  refine ⟨fun pins s σ H Q I h => wpAny_Call_Name_kw (ld_glob I hg m ?_ hdb)⟩
  exact PySem.W.callWith_K (h₀ := X.base) I.ok.mod.kin kp (thn (ha.run pos pins s σ H _ I h) fun us z ⟨vs, G, J, r, q⟩ => ⟨J.kIn, run_g F hr b hx J r q⟩) he hpl
theorem pe_f0 (G : Def X.prog X.w X.K X.mg X.base CX x k ps sp) (hr : RoomG k X.A) (hg : Gl X x) (hx : Passes CX X E) (hdb : (x == ("__debug__" : Str)) = false := by decide) :
    PE X (.Call (.Name x p) [] [] pos) (tCall sp [] E tNil) := by
  obtain ⟨f, fd, m, F, kp, b⟩ := G.ex
  refine ⟨fun pins s σ H Q I h => wpAny_Call_Name_kw (ld_glob I hg m ?_ hdb)⟩
  exact PySem.W.callWith_K0 I.kIn kp (run_g (us := []) F hr b hx I .nil h)
end
/-- a def called by its arguments' names -/
structure DefK (P : Program) (w : World) (K : PySem.W.Frag) (mg : Str → Option Value) (base : Heap) (CX : CXT) (name : Str) (k : Nat) (ps ks : List Str) (gV : List V → List V → List V) (sp : Sp) : Prop where
  ex : ∃ f fd g, mg name = some (.ref f) ∧ FnG P w K mg base CX k f fd ps sp ∧ PySem.W.keepIn K (.ref f) = true ∧ KBinds K fd ps ks g gV
section
variable {X : Cx} {CX : CXT} {k : Nat} {ps ks : List Str} {gV : List V → List V → List V} {sp : Sp} {x : Str} {p pos : Pos} {e : Expr} {es : List Expr} {kws : List Keyword} {t tk : TA} {E : XK}
theorem pe_fK0 (G : DefK X.prog X.w X.K X.mg X.base CX x k ps ks gV sp) (hr : RoomG k X.A) (hg : Gl X x) (hx : Passes CX X E) (hkw : PK X kws tk)
    (hall : (backToKw pos (keywordEach kws X.env)).all (·.1.isSome) = true := by rfl) (hks : (backToKw pos (keywordEach kws X.env)).filterMap (·.1) = ks := by rfl) (hdb : (x == ("__debug__" : Str)) = false := by decide)
    (hpl : ((backTo pos (starEach [] X.env)).any (·.1) || (backToKw pos (keywordEach kws X.env)).any (·.1.isNone)) = false := by rfl) :
    PE X (.Call (.Name x p) [] kws pos) (tCallK sp gV E tNil tk) := by
  obtain ⟨f, fd, g, m, F, kp, b⟩ := G.ex
  refine ⟨fun pins s σ H Q I h => wpAny_Call_Name_kw (ld_glob I hg m (PySem.W.callWith_KW0 (h₀ := X.base) I.ok.mod.kin kp hall ?_ hpl) hdb)⟩
  refine thn (hkw.run pos pins s σ H _ I h) fun ws z ⟨zs, G, J, rz, q⟩ => ⟨J.kIn, ?_⟩
  rw [hks]
  exact run_gk F hr b hx J .nil rz q
theorem pe_fK (G : DefK X.prog X.w X.K X.mg X.base CX x k ps ks gV sp) (hr : RoomG k X.A) (hg : Gl X x) (hx : Passes CX X E) (ha : PA X (e :: es) t) (hkw : PK X kws tk)
    (hall : (backToKw pos (keywordEach kws X.env)).all (·.1.isSome) = true := by rfl) (hks : (backToKw pos (keywordEach kws X.env)).filterMap (·.1) = ks := by rfl) (hdb : (x == ("__debug__" : Str)) = false := by decide)
    (he : starEach (e :: es) X.env = (false, eval e X.env) :: starEach es X.env := by rfl)
    (hpl : ((backTo pos (starEach (e :: es) X.env)).any (·.1) || (backToKw pos (keywordEach kws X.env)).any (·.1.isNone)) = false := by rfl) :
    PE X (.Call (.Name x p) (e :: es) kws pos) (tCallK sp gV E t tk) := by
  obtain ⟨f, fd, g, m, F, kp, b⟩ := G.ex
  refine ⟨fun pins s σ H Q I h => wpAny_Call_Name_kw (ld_glob I hg m ?_ hdb)⟩
  refine PySem.W.callWith_KW (h₀ := X.base) I.ok.mod.kin kp hall (thn (ha.run pos pins s σ H _ I h) fun us z ⟨vs, G, J, r, q⟩ => ?_) hpl he
  refine thn (hkw.run pos pins z σ G _ J q) fun ws z2 ⟨zs, G2, J2, rz, q2⟩ => ⟨J2.kIn, ?_⟩
  rw [hks]
  exact run_gk F hr b hx J2 r rz q2
end
theorem FnG.no {P : Program} {w : World} {K : PySem.W.Frag} {mg : Str → Option Value} {base : Heap} {CX : CXT} {k : Nat} {f : Addr} {fd : FuncData} {ps : List Str} {sp : Sp} (h : ∀ vs H Q E, sp vs H Q E → False) : FnG P w K mg base CX k f fd ps sp :=
  ⟨fun vs H Q E y => (h vs H Q E y).elim, fun _ _ _ H _ _ vs Q E _ _ _ _ y => (h vs H Q E y).elim⟩
theorem FnG.mono {P : Program} {w : World} {K : PySem.W.Frag} {mg : Str → Option Value} {base : Heap} {CX : CXT} {j k : Nat} {f : Addr} {fd : FuncData} {ps : List Str} {sp : Sp} (F : FnG P w K mg base CX j f fd ps sp) (h : j ≤ k) : FnG P w K mg base CX k f fd ps sp :=
  ⟨F.ln, fun A ou z H ar us vs Q E hr => F.go A ou z H ar us vs Q E (hr.mono h)⟩
/-- what stands in a class of the text -/
def clsB : Stmt → List Stmt := fun
  | .ClassDef (body := bd) .. => bd
  | _ => []
/-! ### an own class: made by its name, fields read -/
structure ClsF (K : PySem.W.Frag) (C : Addr) (fs : List Str) : Prop where
  cl : Cls K C
  na : ∀ f ∈ fs, NoAttr K C f
/-- the class by its name -/
structure ClsN (K : PySem.W.Frag) (x : Str) (C : Addr) (fs : List Str) : Prop extends ClsF K C fs where
  nm : PySem.W.nsIn K mainGlobals x = some (some (.ref C))
theorem ClsN.uniq {K : PySem.W.Frag} {x : Str} {C D : Addr} {fs gs : List Str} (a : ClsN K x C fs) (b : ClsN K x D gs) : C = D := by
  have e := a.nm.symm.trans b.nm
  cases e
  rfl
theorem mk_guards {A : Around} {C : Addr} {us : List Value} {kw : List (Str × Value)} (g : A.guards = some []) : (A.under (.builtin "type.__call__" ⟨.ref C :: us, kw⟩)).guards = some [] := by
  first | exact g | (simp [Around.under, Code.guards, Code.isGuard, guardIds, pushGuards, g])
theorem RoomG.mk2 {k : Nat} {A : Around} (r : RoomG (k + 1) A) (C : Addr) (us : List Value) : RoomG k (A.under (.builtin "type.__call__" ⟨.ref C :: us, []⟩)) := ⟨r.rm.make C us [], mk_guards r.gd, by have := r.un; rw [make_units]; omega⟩
structure DefM (P : Program) (w : World) (K : PySem.W.Frag) (mg : Str → Option Value) (base : Heap) (CX : CXT) (name : Str) (k : Nat) (ps : List Str) (sp : Sp) (C : Addr) : Prop where
  ex : ∃ f fd, mg name = some (.ref C) ∧ Mk K C f ∧ FnG P w K mg base CX k f fd ps sp ∧ Binds K fd ps []
theorem run_mkG {X : Cx} {CX : CXT} {k : Nat} {f C : Addr} {fd : FuncData} {ps : List Str} {sp : Sp} {E : XK} {pins : List (Addr × Obj)} {σ : L2.St} {H : Hp} {s : Shared} {Q : VK} {us : List Value} {vs : List V} (M : Mk X.K C f)
    (F : FnG X.prog X.w X.K X.mg X.base CX k f fd ps sp) (hr : RoomG (k + 1) X.A) (hb : Binds X.K fd ps []) (hx : Passes CX X E) (I : Inv X pins σ H s) (r : Vals vs us)
    (h : ∀ x dx, H x = none → H dx = none → dx ≠ x → sp (.ref x :: (vs ++ [])) (upd (upd H dx (.own x)) x (.ins C dx [])) (fun v H2 => v = .non ∧ Q (.ref x) H2) E) : wpAny (model X.prog X.w) X.A (call (.ref C) us) (EP X pins σ Q) X.xe s := by
  have hq := h (s.heap.objs.size + 1) s.heap.objs.size (I.hok.fresh (Nat.le_succ _)) (I.hok.fresh (Nat.le_refl _)) (Nat.ne_of_lt (Nat.lt_succ_self _))
  have J := Inv.made (C := C) I
  have q : Vals (V.ref (s.heap.objs.size + 1) :: (vs ++ [])) (Value.ref (s.heap.objs.size + 1) :: (us ++ [])) := .cons rfl (r.append .nil)
  have hl : (Value.ref (s.heap.objs.size + 1) :: us ++ []).length = ps.length := q.length.symm.trans (F.ln _ _ _ _ hq)
  have run := F.go _ X.stack _ _ ⟨Value.ref (s.heap.objs.size + 1) :: us, []⟩ (Value.ref (s.heap.objs.size + 1) :: (us ++ [])) _ _ E (hr.mk2 C us) (J.env0.make C us []) (by rw [← List.cons_append]; exact hb _ (Value.ref (s.heap.objs.size + 1) :: us) J.kIn hl) q hq
  refine wpAny_call (make_map (f := f) I.kIn M.makes M.init (beq_iff_eq.mp M.fn) (codeAny_mono run fun r z y => ?_))
  match r, y with
  | .error e, y => exact hx pins σ _ _ e z J y
  | .ok .next, y => exact y.elim
  | .ok .brk, y => exact y.elim
  | .ok .cont, y => exact y.elim
  | .ok (.ret u), y =>
    obtain ⟨v, G, J2, rv, ev, q3⟩ := J.after y
    subst ev
    exact ⟨rv, ⟨V.ref (s.heap.objs.size + 1), G, J2, rfl, q3⟩⟩
theorem pe_mk {X : Cx} {CX : CXT} {k : Nat} {ps : List Str} {sp : Sp} {x : Str} {C : Addr} {p pos : Pos} {e : Expr} {es : List Expr} {t : TA} {E : XK} (G : DefM X.prog X.w X.K X.mg X.base CX x k ps sp C) (hr : RoomG (k + 1) X.A) (hg : Gl X x) (hx : Passes CX X E) (ha : PA X (e :: es) t)
    (hdb : (x == ("__debug__" : Str)) = false := by decide) (he : starEach (e :: es) X.env = (false, eval e X.env) :: starEach es X.env := by rfl) (hpl : (backTo pos (starEach es X.env)).any (·.1) = false := by rfl) :
    PE X (.Call (.Name x p) (e :: es) [] pos) (tMake C sp [] E t) := by
  obtain ⟨f, fd, m, M, F, b⟩ := G.ex
  refine ⟨fun pins s σ H Q I h => wpAny_Call_Name_kw (ld_glob I hg m ?_ hdb)⟩
  exact PySem.W.callWith_K (h₀ := X.base) I.ok.mod.kin M.kp (thn (ha.run pos pins s σ H _ I h) fun us z ⟨vs, G, J, r, q⟩ => ⟨J.kIn, run_mkG M F hr b hx J r q⟩) he hpl
/-! ### own methods -/
structure DefO (P : Program) (w : World) (K : PySem.W.Frag) (mg : Str → Option Value) (base : Heap) (CX : CXT) (C : Addr) (nm : Str) (k : Nat) (ps : List Str) (sp : Sp) : Prop where
  ex : ∃ f fd, PySem.W.findIn K (.ref C) nm = some (some (.ref f)) ∧ PySem.W.isFn K (.ref f) = true ∧ FnG P w K mg base CX k f fd ps sp ∧ Binds K fd ps []
theorem run_gA {X : Cx} {CX : CXT} {k : Nat} {f : Addr} {fd : FuncData} {ps : List Str} {sp : Sp} {E : XK} {pins : List (Addr × Obj)} {σ : L2.St} {H : Hp} {s : Shared} {Q : VK} {us : List Value} {vs : List V} {A : Around}
    (F : FnG X.prog X.w X.K X.mg X.base CX k f fd ps sp) (hr : RoomG k A) (fr : A.frames = X.A.frames) (hb : Binds X.K fd ps []) (hx : Passes CX X E) (I : Inv X pins σ H s) (r : Vals vs us) (h : sp vs H Q E) : wpAny (model X.prog X.w) A (call (.ref f) us) (EP X pins σ Q) X.xe s := by
  have e0 : Env0 X.prog X.w X.K X.mg X.base A X.stack s H := by
    have e := I.env0
    exact ⟨by rw [fr]; exact e.frames, e.mod, e.bs, e.bsz, e.funs, e.frf, e.hok, e.bare⟩
  have q := r.append (show Vals [] [] from .nil)
  have h : sp (vs ++ []) H Q E := by rw [List.append_nil]; exact h
  exact wpAny_call (codeAny_mono (F.go A X.stack s H ⟨us, []⟩ (us ++ []) (vs ++ []) Q E hr e0 (hb s us I.kIn (q.length.symm.trans (F.ln _ _ _ _ h))) q h) fun _ _ y => aft hx I y)
theorem cmpBack {X : Cx} {pins : List (Addr × Obj)} {σ : L2.St} {Q : VK} {u : Value} {s : Shared} (h : EP X pins σ Q u s) : PySem.W.CmpBack (EP X pins σ Q) u s := by
  obtain ⟨v, H', I, r, q⟩ := id h
  cases u <;> first | exact h | (exfalso; cases v <;> first | (cases r; done) | (obtain ⟨_, e⟩ := r; cases e))
/-- x == y of one class with an == of its own -/
def rEqO (C : Addr) (sp : Sp) (E : XK) : R2 := fun x y H Q => ∃ a b dx dy fs gs, x = .ref a ∧ y = .ref b ∧ H a = some (.ins C dx fs) ∧ H b = some (.ins C dy gs) ∧ sp [.ref a, .ref b] H Q E
theorem op_eqO {X : Cx} {CX : CXT} {C : Addr} {n : Nat} {ps : List Str} {sp : Sp} {E : XK} (G : DefO X.prog X.w X.K X.mg X.base CX C "__eq__" n ps sp) (hr : RoomG n X.A) (hx : Passes CX X E) : OpR X (compareOp .Eq) (rEqO C sp E) := by
  obtain ⟨f, fd, hs, hf, F, hb⟩ := G.ex
  intro pins s σ H x y v u Q I rx ry h
  obtain ⟨a, b, dx, dy, fs, gs, rfl, rfl, ha, hb', h⟩ := h
  cases rx
  cases ry
  obtain ⟨mA, J, _⟩ := ins_get I.hok ha
  obtain ⟨mB, J', _⟩ := ins_get I.hok hb'
  obtain ⟨od, J, _⟩ := J.look
  obtain ⟨od', J', _⟩ := J'.look
  obtain ⟨m, hF⟩ := I.fr
  show wpAny (model X.prog X.w) X.A (richCompare .Eq (.ref a) (.ref b)) (EP X pins σ Q) X.xe s
  refine PySem.W.cmp_K (op := .Eq) (tb := .ref C) (by have := hr.units; omega) hF I.ok.mod.kin J J'.type (by simp [PySem.W.notFirst]) hs hf ?_
  exact wpAny_mono (run_gA F hr rfl hb hx I (show Vals [V.ref a, V.ref b] [Value.ref a, Value.ref b] from .cons rfl (.cons rfl .nil)) h) (fun r z q => cmpBack q) fun _ _ e => e
theorem w_eqO {C a b dx dy : Addr} {fs gs : List (Str × V)} {sp : Sp} {E : XK} {H : Hp} {Q : VK} (ha : H a = some (.ins C dx fs)) (hb : H b = some (.ins C dy gs)) (k : sp [.ref a, .ref b] H Q E) : rEqO C sp E (.ref a) (.ref b) H Q := ⟨a, b, dx, dy, fs, gs, rfl, rfl, ha, hb, k⟩
/-! x != y: the contrary of the own == -/
section
variable {prog : Program} {w : World} {A : Around} {E : Value → Shared → Prop} {s : Shared} {K : PySem.W.Frag} {x C L f : Addr} {h₀ : Heap} {m : Str → Option Value} {ox : Obj} {od : Option Obj} {b tb : Value}
theorem ifBound_ne {M : Model} {args : List Value} {Q : Option Value → Shared → Prop} (X : K.In s.heap) (I : PySem.W.InstAt s.heap x ox C od) (hs : PySem.W.findIn K (.ref C) "__ne__" = some (some (.builtin "object.__ne__")))
    (h : wpAny M A (call (.builtin "object.__ne__") (.ref x :: args)) (fun v => Q (some v)) E s) : wpAny M A (callSpecialIfBound? (.ref x) "__ne__" args) Q E s := by
  simp only [callSpecialIfBound?, bindSpecialIfBound?]
  refine PySem.wpAny_holding (PySem.wpAny_bind (PySem.wpAny_bind (PySem.wpAny_bind (I.type.here ((PySem.W.looks_findIn X hs).here ?_)))))
  refine PySem.wpAny_bind (PySem.wpAny_askSetting (PySem.wpAny_ite ?_))
  have fin : wpAny M A (call (.builtin "object.__ne__") ([.ref x] ++ args) >>= fun v => pure (some v)) Q E s := PySem.wpAny_bind (wpAny_mono h (fun v s' h' => PySem.wpAny_pure h') fun _ _ h' => h')
  split
  · exact PySem.wpAny_bind (wpAny_of_eq (PySem.F.cmp_object.ne.bind _) (PySem.wpAny_pure (by exact fin)))
  · exact PySem.wpAny_tryCatch (PySem.wpAny_bind (wpAny_of_eq (PySem.F.cmp_object.ne.bind _) (PySem.wpAny_pure (by exact fin))))
def NeBack (Q : Value → Shared → Prop) (v : Value) (s' : Shared) : Prop := match v with
  | .bool k => Q (.bool (!k)) s'
  | _ => False
theorem ne_K {Q : Value → Shared → Prop} (hu : A.units + 2 < cLine) (F : Fr h₀ L s.heap m) (X₀ : K.In h₀) (I : PySem.W.InstAt s.heap x ox C od) (hb : PySem.W.Looks (model prog w) s.heap (typeOf b) tb) (hn : PySem.W.notFirst K C tb = true) (hm : PySem.W.mroIn K C (.type "object") = some true)
    (hne : PySem.W.findIn K (.ref C) "__ne__" = some (some (.builtin "object.__ne__"))) (hs : PySem.W.findIn K (.ref C) "__eq__" = some (some (.ref f))) (hf : PySem.W.isFn K (.ref f) = true)
    (h : wpAny (model prog w) A.in1 (call (.ref f) [.ref x, b]) (NeBack Q) E s) : wpAny (model prog w) A (richCompare .NotEq (.ref x) b) Q E s := by
  have X := X₀.keeps F.keep
  have one : wpAny (model prog w) A (tryCompare (.ref x) (cmpInfo .NotEq).2.1 b) (fun r s' => ∃ v, r = some v ∧ Q v s') E s := by
    unfold tryCompare
    refine PySem.wpAny_bind (ifBound_ne X I hne ?_)
    refine wpAny_call (codeAny_call_builtin PySem.F.cmp_object.ne.plain PySem.F.cmpEntry_ne (PySem.W.check_slot PySem.F.cmpKind_ne PySem.F.cmpSplit_ne (I.type.andThen (PySem.W.looks_mroIn X hm)) (PySem.F.cmpArgs_ne _ _) ?_))
    unfold Builtin.«object.__ne__»
    refine PySem.wpAny_bind (m := slotArgs "__ne__" 1 _) (PySem.wpAny_pure ?_)
    refine PySem.wpAny_bind (m := cRoomFor _ _) (wpAny_cRoomFor (by show A.units + 1 < cLine; omega) ?_)
    refine PySem.wpAny_bind (m := callSpecialIfBound? (.ref x) (Str.ofString "__eq__") _) (PySem.W.ifBound_K X I hs hf (wpAny_mono h (fun r s' hq => ?_) fun _ _ e => e))
    cases r <;> first | exact hq.elim | skip
    rename_i k
    refine PySem.wpAny_bind (wpAny_truthy_bool ?_)
    exact PySem.wpAny_pure (PySem.wpAny_pure ⟨_, rfl, hq⟩)
  unfold richCompare
  simp only [oneThing_ref]
  refine PySem.wpAny_holding (PySem.wpAny_bind (wpAny_cRoomFor (by omega) ?_))
  refine PySem.wpAny_bind (I.type.here (PySem.wpAny_bind (hb.here ?_)))
  split
  · rename_i q
    have e : PySem.W.subIn K tb (.ref C) = some false := by
      rcases Bool.or_eq_true_iff.mp hn with e | e
      · rw [beq_iff_eq.mp e] at q; simp at q
      · exact beq_iff_eq.mp e
    refine PySem.wpAny_bind ((PySem.W.looks_subIn X e).here ?_)
    simp only [Bool.false_eq_true, if_false]
    refine PySem.wpAny_bind (wpAny_mono one (fun r s' z => ?_) fun _ _ e => e)
    obtain ⟨v, rfl, hq⟩ := z
    exact PySem.wpAny_pure hq
  · refine PySem.wpAny_bind (PySem.wpAny_pure ?_)
    simp only [Bool.false_eq_true, if_false]
    refine PySem.wpAny_bind (wpAny_mono one (fun r s' z => ?_) fun _ _ e => e)
    obtain ⟨v, rfl, hq⟩ := z
    exact PySem.wpAny_pure hq
end
def rNeO (C : Addr) (sp : Sp) (E : XK) : R2 := fun x y H Q => ∃ a b dx dy fs gs, x = .ref a ∧ y = .ref b ∧ H a = some (.ins C dx fs) ∧ H b = some (.ins C dy gs) ∧ sp [.ref a, .ref b] H (fun v H' => ∃ k, v = .bl k ∧ Q (.bl (!k)) H') E
theorem op_neO {X : Cx} {CX : CXT} {C : Addr} {n : Nat} {ps : List Str} {sp : Sp} {E : XK} (G : DefO X.prog X.w X.K X.mg X.base CX C "__eq__" n ps sp) (hne : PySem.W.findIn X.K (.ref C) "__ne__" = some (some (.builtin "object.__ne__"))) (hm : PySem.W.mroIn X.K C (.type "object") = some true) (hr : RoomG (n + 1) X.A) (hx : Passes CX X E) : OpR X (compareOp .NotEq) (rNeO C sp E) := by
  obtain ⟨f, fd, hs, hf, F, hb⟩ := G.ex
  intro pins s σ H x y v u Q I rx ry h
  obtain ⟨a, b, dx, dy, fs, gs, rfl, rfl, ha, hb', h⟩ := h
  cases rx
  cases ry
  obtain ⟨mA, J, _⟩ := ins_get I.hok ha
  obtain ⟨mB, J', _⟩ := ins_get I.hok hb'
  obtain ⟨od, J, _⟩ := J.look
  obtain ⟨od', J', _⟩ := J'.look
  obtain ⟨m, hF⟩ := I.fr
  show wpAny (model X.prog X.w) X.A (richCompare .NotEq (.ref a) (.ref b)) (EP X pins σ Q) X.xe s
  refine ne_K (tb := .ref C) (by have := hr.units; omega) hF I.ok.mod.kin J J'.type (by simp [PySem.W.notFirst]) hm hne hs hf ?_
  refine wpAny_mono (run_gA F hr.in1 rfl hb hx I (show Vals [V.ref a, V.ref b] [Value.ref a, Value.ref b] from .cons rfl (.cons rfl .nil)) h) (fun r z q => ?_) fun _ _ e => e
  obtain ⟨v, H', I', rv, k, rfl, q⟩ := q
  obtain rfl : r = Value.bool k := rv
  exact ⟨.bl (!k), H', I', rfl, q⟩
theorem w_neO {C a b dx dy : Addr} {fs gs : List (Str × V)} {sp : Sp} {E : XK} {H : Hp} {Q : VK} (ha : H a = some (.ins C dx fs)) (hb : H b = some (.ins C dy gs)) (k : sp [.ref a, .ref b] H (fun v H' => ∃ k, v = .bl k ∧ Q (.bl (!k)) H') E) : rNeO C sp E (.ref a) (.ref b) H Q := ⟨a, b, dx, dy, fs, gs, rfl, rfl, ha, hb, k⟩
/-- data of any depth -/
def rEqDD (K : PySem.W.Frag) : R2 := fun x y H Q => ∃ d e, Dp K H x d ∧ Dp K H y e ∧ d.canLay0 = true ∧ e.canLay0 = true ∧ d.depth ≤ 3000 ∧ Q (.bl (PyData.eqv d e)) H
def rNeDD (K : PySem.W.Frag) : R2 := fun x y H Q => ∃ d e, Dp K H x d ∧ Dp K H y e ∧ d.canLay0 = true ∧ e.canLay0 = true ∧ d.depth ≤ 3000 ∧ Q (.bl (!PyData.eqv d e)) H
theorem op_eqDD {X : Cx} {K : PySem.W.Frag} (hK : X.K = K) (hu : X.A.units + 5000 < cLine) : OpR X (compareOp .Eq) (rEqDD K) := by
  subst hK
  intro pins s σ H x y v u Q I rx ry h
  obtain ⟨d, e, hd, he, sd, se, dp, q⟩ := h
  obtain ⟨as, r1⟩ := Dp.reads I d x v hd rx
  obtain ⟨bs, r2⟩ := Dp.reads I e y u he ry
  exact SeqAt.compareEq_reads r1 r2 sd se (by omega) ⟨.bl _, H, I, rfl, q⟩
theorem op_neDD {X : Cx} {K : PySem.W.Frag} (hK : X.K = K) (hu : X.A.units + 5000 < cLine) : OpR X (compareOp .NotEq) (rNeDD K) := by
  subst hK
  intro pins s σ H x y v u Q I rx ry h
  obtain ⟨d, e, hd, he, sd, se, dp, q⟩ := h
  obtain ⟨as, r1⟩ := Dp.reads I d x v hd rx
  obtain ⟨bs, r2⟩ := Dp.reads I e y u he ry
  exact SeqAt.compareNe_reads r1 r2 sd se (by omega) ⟨.bl _, H, I, rfl, q⟩
/-! isinstance of a class of one's own -/
structure ClsO (K : PySem.W.Frag) (C : Addr) : Prop where
  ne : PySem.W.findIn K (.ref C) "__ne__" = some (some (.builtin "object.__ne__"))
  mo : PySem.W.mroIn K C (.type "object") = some true
  kc : PySem.W.findIn K (.ref C) "__class__" = some (some (.builtin "object.__class__"))
  kg : PySem.W.specialIn K (.builtin "object.__class__") "__get__" = some (some (.builtin "getset_descriptor.__get__"))
  kt : PySem.W.takesIn K (.builtin "object.__class__") = some true
  ki : PySem.W.kitOne K (.ref C) (.ref C) = some true
theorem w_isiOwn {K : PySem.W.Frag} {H : Hp} {Q : VK} {a C dx : Addr} {fs : List (Str × V)} (h : H a = some (.ins C dx fs)) (cl : Cls K C) (o : ClsO K C) (k : Q (.bl true) H) : rIsi K [.ref a, .ref C] H Q := ⟨_, _, _, _, _, rfl, .own C, .base (.ins h cl o.kc o.kg o.kt o.mo), o.ki, k⟩
/-- a dict of the module has these texts as keys -/
def KDs (K : PySem.W.Frag) (w : World) (a : Addr) (ks : List Str) : Prop := (a == sysModules) = false ∧ ∀ z ∈ ks, ∃ v, KDct K w a z v
/-- a dict of the module: texts, each with a tuple of texts -/
def KDt (K : PySem.W.Frag) (w : World) (a : Addr) (l : List (Str × List Str)) : Prop := (a == sysModules) = false ∧ ∀ z ∈ l, ∃ t, KDct K w a z.1 (.ref t) ∧ ∀ H, SqT K H t (z.2.map V.str)
def tKGet (K : PySem.W.Frag) (w : World) (td ty : TE) : TE := fun σ H Q => td σ H fun x H1 => ty σ H1 fun y H2 => ∃ a z v, x = .ref a ∧ y = .str z ∧ (a == sysModules) = false ∧ KDct K w a z v ∧ Q v H2
theorem pe_kget {X : Cx} {o i : Expr} {pos : Pos} {td ty : TE} (ho : PE X o td) (hi : PE X i ty) (hs : NoSl i) : PE X (.Subscript o i pos) (tKGet X.K X.w td ty) := by
  refine ⟨fun pins s σ H Q I h => ?_⟩
  refine subD_of PySem.F.slot_dict_getitem.lookup hs (thn (ho.run pins s σ H _ I h) fun u s1 ⟨x, H1, I1, rx, q1⟩ => thn (hi.run pins s1 σ H1 _ I1 q1) fun iv s2 ⟨y, H2, I2, ry, a, z, v, ex, ey, low, ⟨es, n, u0, hl, hk, e, ru⟩, q2⟩ => ?_)
  subst ex
  subst ey
  obtain rfl : u = Value.ref a := rx
  obtain ⟨t, rfl⟩ := (show ∃ t, iv = Value.str z t from ry)
  refine ⟨⟨_, I2.kIn _ _ hl, rfl⟩, wpAny_getItem_of (strKind_is X.prog X.w z t) (PySem.W.mapOf_K (prog := X.prog) (w := X.w) I2.kIn hl hk) ((PySem.W.find_K hl e)) ⟨v, H2, I2.tok _, ru, q2⟩⟩
def tNiK (K : PySem.W.Frag) (w : World) (ty td : TE) : TE := fun σ H Q => ty σ H fun y H1 => td σ H1 fun x H2 => ∃ a z v, x = .ref a ∧ y = .str z ∧ (a == sysModules) = false ∧ KDct K w a z v ∧ Q (.bl false) H2
theorem pc_niK {X : Cx} {i o : Expr} {ty td : TE} (hi : PE X i ty) (ho : PE X o td) : PC X .NotIn i o (tNiK X.K X.w ty td) := by
  refine ⟨fun pins s σ H Q I h => ?_⟩
  refine thn (hi.run pins s σ H _ I h) fun iv s1 ⟨y, H1, I1, ry, q1⟩ => thn (ho.run pins s1 σ H1 _ I1 q1) fun u s2 ⟨x, H2, I2, rx, a, z, v, ex, ey, low, ⟨es, n, u0, hl, hk, e, ru⟩, q2⟩ => ?_
  subst ex
  subst ey
  obtain rfl : u = Value.ref a := rx
  obtain ⟨t, rfl⟩ := (show ∃ t, iv = Value.str z t from ry)
  have hm := PySem.W.mapOf_K (prog := X.prog) (w := X.w) I2.kIn hl hk
  refine wpAny_notIn_of (strKind_is X.prog X.w z t) low hm ?_
  rw [PySem.W.find_K hl e]
  exact ⟨.bl false, H2, I2.tok _, rfl, q2⟩
/-! ### the top: the law is called where nothing is being shown -/
theorem top_core {P : Program} {w : World} {K : PySem.W.Frag} {mg mb : Str → Option Value} {CX : CXT} {k : Nat} {fa a : Addr} {fd : FuncData} {x : Str} {sp : Sp} {z : Shared} {vs : List Value} {ns : List Int} (kz : K.In z.heap) (g1 : z.heap.Ns mainGlobals mg) (g2 : z.heap.Ns builtinsNs mb)
    (g3 : ∀ y : Str, y ≠ "__name__" → mb y = bootBuiltins y) (lim : z.heap.NoLimit) (gn : z.gens = #[]) (ha : z.heap.get? a = some { cls := .type "list", data := .seq vs.toArray }) (hr : RoomG k callerA)
    (F : ∀ base : Heap, K.In base → base.Ns mainGlobals mg → FnG P w K mg base CX k fa fd [x] sp) (hb : ∀ (s : Shared) (u : Value), BindsTo s fd ⟨[u], []⟩ [(x, u)]) (hCX : ∀ H e s', CX [] H z (fun _ _ _ => False) e s' → False)
    (H : Hp) (hO : Only H) (hsp : sp [.ref a] H (fun v _ => v = .bl true) fun _ _ _ => False) (ok : HOk P w H z.heap) (hA : ∀ b, H b ≠ none → b = a) (hK : H a ≠ none → K.lookup a = none) :
    codeAny (model P w) callerA (.call (.ref fa) ⟨[.ref a], []⟩) (fun r s' => r = .ok (.ret (.bool true)) ∧ OldK z.heap s'.heap ∧ s'.os = z.os ∧ AllBare s'.gens) z := by
  have non : ∀ {b : Addr} {o : Obj} {es : Array DictEntry} {ep : Nat}, z.heap.get? b = some o → o.data = .dict es ep → H b = none := by
    intro b o es ep e d
    refine Classical.byContradiction fun q => ?_
    have eb := hA b q
    subst eb
    rw [ha] at e
    cases e
    cases (show Data.seq vs.toArray _ = Data.dict es ep from d)
  have nk : ∀ {b : Addr} {m : Str → Option Value}, z.heap.Ns b m → (hidT z.heap H).Ns b m := by
    rintro b m ⟨o, es, ep, e, d, r⟩
    exact ⟨o, es, ep, hidT_get e (non e d), d, r⟩
  have kb : K.In (hidT z.heap H) := by
    intro b o e
    refine hidT_get (kz b o e) (Classical.byContradiction fun q => ?_)
    have eb := hA b q
    subst eb
    rw [hK q] at e
    cases e
  have hM : Mod K mg (hidT z.heap H) := ⟨kb, nk g1, ⟨mb, nk g2, g3⟩, lim.elim fun mc h => ⟨mc, nk h.1, h.2⟩⟩
  have e0 : Env0 P w K mg (hidT z.heap H) callerA [] z H := ⟨rfl, hM, fun b o e => of_hidT e, Nat.le_of_eq (hidT_size _ _), trivial, (by intro b hb; cases (show b ∈ ([] : List Addr) from hb)), ok, .of_eq gn⟩
  refine codeAny_mono ((F _ kb (nk g1)).go callerA [] z H ⟨[.ref a], []⟩ [.ref a] [.ref a] _ _ hr e0 (hb z (.ref a)) (.cons rfl .nil) hsp) fun r s' h => ?_
  match r, h with
  | .error e, h => exact (hCX H e s' h).elim
  | .ok .next, h => exact h.elim
  | .ok .brk, h => exact h.elim
  | .ok .cont, h => exact h.elim
  | .ok (.ret u), h =>
    obtain ⟨v, G, os, bare, un, ok', rv, q⟩ := h
    have q : v = .bl true := q
    subst q
    obtain rfl : u = Value.bool true := rv
    refine ⟨rfl, OldK.of_keep fun b o e => ?_, os, bare⟩
    rcases hO b with y | ⟨ob, xs, y⟩
    · exact un.keep b o e y (by intro n; cases (show b ∈ ([] : List Addr) from n)) (by simp)
    · obtain ⟨e1, _⟩ := ok b _ y
      obtain ⟨e2, _⟩ := ok' b _ (un.frzs b ob _ y)
      rw [e] at e1
      cases e1
      exact e2
theorem top_run {P : Program} {w : World} {K : PySem.W.Frag} {mg mb : Str → Option Value} {CX : CXT} {k : Nat} {fa a : Addr} {fd : FuncData} {x : Str} {sp : Sp} {z : Shared} {vs : List Value} {ns : List Int} (kz : K.In z.heap) (g1 : z.heap.Ns mainGlobals mg) (g2 : z.heap.Ns builtinsNs mb)
    (g3 : ∀ y : Str, y ≠ "__name__" → mb y = bootBuiltins y) (lim : z.heap.NoLimit) (gn : z.gens = #[]) (ha : z.heap.get? a = some { cls := .type "list", data := .seq vs.toArray }) (hi : IntsAre vs ns) (hl : ns.length ≤ sizeLine) (hr : RoomG k callerA)
    (F : ∀ base : Heap, K.In base → base.Ns mainGlobals mg → FnG P w K mg base CX k fa fd [x] sp) (hb : ∀ (s : Shared) (u : Value), BindsTo s fd ⟨[u], []⟩ [(x, u)]) (hCX : ∀ H e s', CX [] H z (fun _ _ _ => False) e s' → False)
    (hsp : ∀ H : Hp, Only H → SqL K H a (ns.map V.int) → sp [.ref a] H (fun v _ => v = .bl true) fun _ _ _ => False) :
    codeAny (model P w) callerA (.call (.ref fa) ⟨[.ref a], []⟩) (fun r s' => r = .ok (.ret (.bool true)) ∧ OldK z.heap s'.heap ∧ s'.os = z.os ∧ AllBare s'.gens) z := by
  have rv := vals_ints hi
  have le := hi.length
  cases hk : K.lookup a with
  | some o =>
    have e := kz a o hk
    rw [ha] at e
    cases e
    have hO : Only (fun _ => none) := fun _ => .inl rfl
    exact top_core (ns := ns) kz g1 g2 g3 lim gn ha hr F hb hCX _ hO (hsp _ hO (.inr ⟨_, vs.toArray, _, hk, rfl, rfl, rfl, (by rw [List.size_toArray, le]; exact hl), (by simpa using rv)⟩)) (by intro b u y; cases (show (none : Option HO) = some u from y)) (by intro b y; exact absurd rfl y) (by intro y; exact absurd rfl y)
  | none =>
    have h1 : ∀ b u, (if b = a then some (HO.frz { cls := .type "list", data := .seq vs.toArray } (.lst (ns.map V.int))) else none) = some u → b = a ∧ u = HO.frz { cls := .type "list", data := .seq vs.toArray } (.lst (ns.map V.int)) := by
      intro b u y
      by_cases n : b = a
      · rw [if_pos n] at y
        cases y
        exact ⟨n, rfl⟩
      · rw [if_neg n] at y
        cases y
    have hO : Only (fun b => if b = a then some (HO.frz { cls := .type "list", data := .seq vs.toArray } (.lst (ns.map V.int))) else none) := fun b => by
      by_cases n : b = a
      · exact .inr ⟨_, _, if_pos n⟩
      · exact .inl (if_neg n)
    refine top_core (ns := ns) kz g1 g2 g3 lim gn ha hr F hb hCX _ hO (hsp _ hO (.inl (.inr ⟨{ cls := .type "list", data := .seq vs.toArray }, if_pos rfl⟩))) (fun b u y => ?_) (fun b y => ?_) (fun _ => hk)
    · obtain ⟨rfl, rfl⟩ := h1 b u y
      exact ⟨ha, by rw [List.length_map]; exact hl, vs, _, rv, ha⟩
    · by_cases n : b = a
      · exact n
      · exact absurd (if_neg n) y
theorem walk_g {l : PySem.W.OpenLaw} {n k : Nat} {q : Program} {loose : List Str} {XP : (Str → Option Value) → Heap → Prop} {YP : World → Heap → Prop} {d : DefRec} {K : Params → PySem.W.Frag} {CX : World → CXT} {sp : World → Sp} {x : Str}
    (hn : l.most = some n) (hn2 : n ≤ sizeLine) (hdf : d.params.defaults = []) (hr : RoomG k callerA) (hY : ∀ (w : World) (h : Heap), YP w h → (K w.params).In h)
    (F : ∀ (w : World) (mg : Str → Option Value) (fa : Addr) (h : Heap), (K w.params).In h → h.Ns mainGlobals mg → mg d.name = some (.ref fa) → ∃ fd : FuncData, (∀ (s : Shared) (u : Value), BindsTo s fd ⟨[u], []⟩ [(x, u)]) ∧
        ∀ base : Heap, (K w.params).In base → base.Ns mainGlobals mg → FnG l.prog w (K w.params) mg base (CX w) k fa fd [x] (sp w))
    (hsp : ∀ (w : World) (H : Hp) (a : Addr) (ns : List Int), ns.length ≤ n → Only H → SqL (K w.params) H a (ns.map V.int) → sp w [.ref a] H (fun v _ => v = .bl true) fun _ _ _ => False)
    (hCX : ∀ (w : World) (H : Hp) (s : Shared) (e : Value) (s' : Shared), CX w [] H s (fun _ _ _ => False) e s' → False) :
    PySem.W.WalkO q loose XP YP l.row.toRowW d [] (fun f vs => PySem.call f vs) := by
  refine Att.attach_call hn hdf fun w s0 z mg mb fa o pm cd dc a vs ns G Y ho hd hcd hmg hobj hi hl hg => ?_
  have kz := hY w _ Y
  obtain ⟨fd, hb, hF⟩ := F w mg fa _ kz G.T.g hmg
  exact top_run kz G.T.g G.T.b G.T.builtins G.T.nolimit hg hobj hi (Nat.le_trans hl hn2) hr hF hb (fun H e s' => hCX w H z e s') fun H hO hS => hsp w H a ns hl hO hS
/-! ### heaps -/
theorem sm_new {H : Hp} {p : Addr} {o : HO} (h : H p = none) : Sm H (upd H p o) := fun b x e => by
  rw [upd_ne (ne_of_none e h)]
  exact e
/-- all but b as it was -/
def Kp (b : Addr) (H H' : Hp) : Prop := ∀ a o, a ≠ b → H a = some o → H' a = some o
theorem Kp.refl {b : Addr} (H : Hp) : Kp b H H := fun _ _ _ h => h
theorem Kp.trans {b : Addr} {H H1 H2 : Hp} (x : Kp b H H1) (y : Kp b H1 H2) : Kp b H H2 := fun a o n h => y a o n (x a o n h)
theorem Kp.of {b : Addr} {H H1 : Hp} (x : Sm H H1) : Kp b H H1 := fun a o _ h => x a o h
theorem kp_upd {b : Addr} {H : Hp} {o : HO} : Kp b H (upd H b o) := fun a x n h => by rw [upd_ne n]; exact h
theorem ne_new {H : Hp} {p b : Addr} {o : HO} (hp : H p = none) (hb : H b = some o) : p ≠ b := fun e => by rw [e, hb] at hp; cases hp
theorem Same.get {H H' : Hp} {a : Addr} {o : HO} (h : Sm H H') (k : H a = some o) : H' a = some o := h a o k
theorem Kp.get {b : Addr} {H H' : Hp} {a : Addr} {o : HO} (h : Kp b H H') (n : a ≠ b) (k : H a = some o) : H' a = some o := h a o n k
theorem ne_new2 {H : Hp} {p b : Addr} {o : HO} (hp : H p = none) (hb : H b = some o) : b ≠ p := fun e => by rw [← e, hb] at hp; cases hp
theorem sm_mut {H H1 H2 : Hp} {p : Addr} (s : Sm H H1) (n : H p = none) (k : Kp p H1 H2) : Sm H H2 := fun a o h => k a o (ne_of_none h n) (s a o h)
theorem kp_mut {b : Addr} {H H1 H2 : Hp} {p : Addr} (s : Kp b H H1) (n : H p = none) (k : Kp p H1 H2) : Kp b H H2 := fun a o m h => k a o (ne_of_none h n) (s a o m h)
theorem kp_free {b : Addr} {H H1 : Hp} {p : Addr} (s : Kp b H H1) (m : p ≠ b) (n : H1 p = none) : H p = none := by
  cases e : H p with
  | none => rfl
  | some o => rw [s p o m e] at n; cases n
theorem at_ints {ns : List Int} {i : Int} (h0 : 0 ≤ i) (h1 : i < ((ns.map V.int).length : Int)) : ∃ n, atI (ns.map V.int) i = some (.int n) := by
  obtain ⟨j, rfl⟩ := Int.eq_ofNat_of_zero_le h0
  have h2 : j < ns.length := by rw [List.length_map] at h1; omega
  exact ⟨ns[j], atI_nat (by rw [List.getElem?_map, List.getElem?_eq_getElem h2]; rfl)⟩
/-- a list that no one stores into: the script's -/
def SqF (K : PySem.W.Frag) (H : Hp) (a : Addr) (xs : List V) : Prop := (∃ o, H a = some (.frz o (.lst xs))) ∨
  ∃ (o : Obj) (its : Array Value) (n : Nat), K.lookup a = some o ∧ o.cls = .type "list" ∧ o.dict = none ∧ o.data = .seq its n ∧ its.size ≤ sizeLine ∧ Vals xs its.toList
theorem SqF.sq {K : PySem.W.Frag} {H : Hp} {a : Addr} {xs : List V} (h : SqF K H a xs) : SqL K H a xs := by
  rcases h with h | h
  · exact .inl (.inr h)
  · exact .inr h
theorem SqF.sm {K : PySem.W.Frag} {H H' : Hp} {a : Addr} {xs : List V} (h : SqF K H a xs) (e : Sm H H') : SqF K H' a xs := by
  rcases h with ⟨o, h⟩ | h
  · exact .inl ⟨o, e _ _ h⟩
  · exact .inr h
theorem SqF.kp {K : PySem.W.Frag} {H H' : Hp} {a b : Addr} {xs ys : List V} (h : SqF K H a xs) (hb : H b = some (.lst ys)) (e : Kp b H H') : SqF K H' a xs := by
  rcases h with ⟨o, h⟩ | h
  · exact .inl ⟨o, e _ _ (ne_of h hb (by intro z; cases z)) h⟩
  · exact .inr h
theorem SqF.of {K : PySem.W.Frag} {H : Hp} {a : Addr} {xs : List V} (hO : Only H) (h : SqL K H a xs) : SqF K H a xs := by
  rcases h with (h | h) | h
  · rcases hO a with e | ⟨o, ys, e⟩
    · rw [e] at h; cases h
    · rw [e] at h; cases h
  · exact .inl h
  · exact .inr h
theorem g_sqf {K : PySem.W.Frag} {H H0 : Hp} {a : Addr} {xs ys : List V} (_ : SqF K H0 a ys) (h : SqF K H a xs) : SqF K H a xs := h
theorem g_lk {H H0 : Hp} {a : Addr} {o o' : HO} (_ : H0 a = some o') (h : H a = some o) : H a = some o := h
theorem g_fr {H H0 : Hp} {a : Addr} (_ : H0 a = none) (h : H a = none) : H a = none := h
/-- a list of tuples of values as told -/
def AllT (P : List V → Prop) (xs : List V) (H : Hp) : Prop := ∀ x ∈ xs, ∃ t vs, x = .ref t ∧ H t = some (.tup vs) ∧ P vs
theorem AllT.nil {P : List V → Prop} {H : Hp} : AllT P [] H := fun _ h => by cases h
theorem AllT.sm {P : List V → Prop} {xs : List V} {H H' : Hp} (h : AllT P xs H) (e : Sm H H') : AllT P xs H' := fun x hx => by
  obtain ⟨t, vs, a, b, c⟩ := h x hx
  exact ⟨t, vs, a, e _ _ b, c⟩
theorem AllT.kp {P : List V → Prop} {xs ys : List V} {H H' : Hp} {b : Addr} (h : AllT P xs H) (hb : H b = some (.lst ys)) (e : Kp b H H') : AllT P xs H' := fun x hx => by
  obtain ⟨t, vs, a, k, c⟩ := h x hx
  exact ⟨t, vs, a, e _ _ (ne_of k hb (by intro z; cases z)) k, c⟩
theorem AllT.add {P : List V → Prop} {xs vs : List V} {H : Hp} {t : Addr} (h : AllT P xs H) (k : H t = some (.tup vs)) (p : P vs) : AllT P (xs ++ [.ref t]) H := fun x hx => by
  rcases List.mem_append.mp hx with hx | hx
  · exact h x hx
  · cases hx with
    | head => exact ⟨t, vs, rfl, k, p⟩
    | tail _ z => cases z
theorem AllT.app {P : List V → Prop} {xs ys : List V} {H : Hp} (h : AllT P xs H) (k : AllT P ys H) : AllT P (xs ++ ys) H := fun x hx => (List.mem_append.mp hx).elim (h x) (k x)
theorem AllT.cut {P : List V → Prop} {xs : List V} {lo hi : Option Int} {H : Hp} (h : AllT P xs H) : AllT P (cutV xs lo hi) H := fun x hx => h x (List.mem_of_mem_drop (List.mem_of_mem_take hx))
theorem AllT.at {P : List V → Prop} {xs : List V} {H : Hp} {n : Nat} {x : V} (h : AllT P xs H) (e : xs[n]? = some x) : ∃ t vs, x = .ref t ∧ H t = some (.tup vs) ∧ P vs := h x (List.mem_of_getElem? e)
theorem at_intE {ns : List Int} {i : Int} {j : Nat} {z : Int} (e : i = (j : Int)) (h : ns[j]? = some z) : atI (ns.map V.int) i = some (.int z) := by
  subst e
  exact atI_nat (by rw [List.getElem?_map, h]; rfl)
theorem d_of {p q : Prop} [Decidable p] [Decidable q] (h : p ↔ q) : decide p = decide q := decide_eq_decide.mpr h
theorem sq_of {K : PySem.W.Frag} {H : Hp} {a : Addr} {xs : List V} (h : H a = some (.lst xs)) : SqL K H a xs := Or.inl (Or.inl h)
theorem st_of {K : PySem.W.Frag} {H : Hp} {a : Addr} {xs : List V} (h : H a = some (.tup xs)) : SqT K H a xs := Or.inl (Or.inl h)
theorem kp_sq {K : PySem.W.Frag} {b : Addr} {H H' : Hp} {a : Addr} {xs : List V} (e : Kp b H H') (n : a ≠ b) (h : SqL K H a xs) : SqL K H' a xs := by
  rcases h with (h | ⟨o, h⟩) | h
  · exact .inl (.inl (e _ _ n h))
  · exact .inl (.inr ⟨o, e _ _ n h⟩)
  · exact .inr h
theorem sm_sq {K : PySem.W.Frag} {H H' : Hp} {a : Addr} {xs : List V} (e : Sm H H') (h : SqL K H a xs) : SqL K H' a xs := e.seq h
theorem sz_of {n : Nat} (h : n ≤ 100000) : n ≤ sizeLine := Nat.le_trans h (by decide)
theorem sz_lt {n : Nat} (h : n < 100000) : n < sizeLine := Nat.lt_of_lt_of_le h (by decide)
/-! ### what follows, by names of our own -/
def NX (D : Ends) : L2.St → Hp → Prop := D.nx
def BK (D : Ends) : L2.St → Hp → Prop := D.bk
def CT (D : Ends) : L2.St → Hp → Prop := D.ct
def RT (D : Ends) : VK := D.rt
def IsBl (x : V) (R : Bool → Prop) : Prop := ∃ k, x = .bl k ∧ R k
def SpC (sp : Sp) (vs : List V) (H : Hp) (Q : VK) (E : XK) : Prop := sp (vs ++ []) H Q E
def PartE (R : Option Int → Hp → Prop) (x : V) (H : Hp) : Prop := ∃ i, x = .int i ∧ R (some i) H
def BmE (K : PySem.W.Frag) (T : String) (x : V) (H : Hp) (R : Prop) : Prop := tyV K T x H ∧ R
def En (n : L2.St → Hp → Prop) (r : VK) (b c : L2.St → Hp → Prop) : Ends := { nx := n, rt := r, bk := b, ct := c }
/-! ### loops -/
def Rg1 (R : It → Hp → Prop) (vs : List V) (H : Hp) : Prop := ∃ j : Int, vs = [.int j] ∧ -(2 ^ 62) ≤ j ∧ j < 2 ^ 62 ∧ R (Itr 0 j.toNat) H
def Rg2 (R : It → Hp → Prop) (vs : List V) (H : Hp) : Prop := ∃ i j : Int, vs = [.int i, .int j] ∧ (-(2 ^ 62) ≤ i ∧ i < 2 ^ 62 ∧ -(2 ^ 62) ≤ j ∧ j < 2 ^ 62) ∧ R (Itr i (j - i).toNat) H
def LsE (K : PySem.W.Frag) (R : It → Hp → Prop) (x : V) (H : Hp) : Prop := ∃ a, x = .ref a ∧ (∃ xs, SqL K H a xs) ∧ R (Itl K a) H
def TpE (K : PySem.W.Frag) (R : It → Hp → Prop) (x : V) (H : Hp) : Prop := ∃ a, x = .ref a ∧ (∃ xs, SqT K H a xs) ∧ R (Itt K a) H
def Loop (J : It) (g : TG) (tb : TS) : TS := fun D σ H => ∃ W : Nat → Nat → L2.St → Hp → Prop, (∃ m, W 0 m σ H) ∧ ∀ i m σ H, W i m σ H →
  (J.stop i H ∧ D.nx σ H) ∨ (J.go i H ∧ ∃ N : L2.St → Hp → Prop, (∀ σ' H', N σ' H' → ∃ m', m' < m ∧ W (i + 1) m' σ' H') ∧ ∀ x H', J.yld i H x H' → g x σ H' fun σ2 H2 => tb { D with nx := N, ct := N, bk := D.nx } σ2 H2)
section
variable {σ : L2.St} {H : Hp} {D : Ends} {K : PySem.W.Frag} {g : TG} {tb : TS} {ta : TA} {te : TE} {c : TT}
theorem w_for {wi : TI} (k : wi σ H fun J H1 => Loop J g tb D σ H1) : tFor wi g tb D σ H := k
theorem w_iR1 {R : It → Hp → Prop} (k : ta σ H fun vs H1 => Rg1 R vs H1) : iRng1 ta σ H R := k
theorem w_iR1e {n : Int} {R : It → Hp → Prop} (h1 : -(2 ^ 62) ≤ n) (h2 : n < 2 ^ 62) (k : R (Itr 0 n.toNat) H) : Rg1 R [V.int n] H := ⟨n, rfl, h1, h2, k⟩
theorem w_iR2 {R : It → Hp → Prop} (k : ta σ H fun vs H1 => Rg2 R vs H1) : iRng2 ta σ H R := k
theorem w_iR2e {m n : Int} {R : It → Hp → Prop} (h : -(2 ^ 62) ≤ m ∧ m < 2 ^ 62 ∧ -(2 ^ 62) ≤ n ∧ n < 2 ^ 62) (k : R (Itr m (n - m).toNat) H) : Rg2 R [V.int m, V.int n] H := ⟨m, n, rfl, h, k⟩
theorem w_iL {R : It → Hp → Prop} (k : te σ H fun x H1 => LsE K R x H1) : iList K te σ H R := k
theorem w_iLe {a : Addr} {xs : List V} {R : It → Hp → Prop} (h : SqL K H a xs) (k : R (Itl K a) H) : LsE K R (.ref a) H := ⟨a, rfl, ⟨xs, h⟩, k⟩
theorem w_iT {R : It → Hp → Prop} (k : te σ H fun x H1 => TpE K R x H1) : iTup K te σ H R := k
theorem w_iTe {a : Addr} {xs : List V} {R : It → Hp → Prop} (h : SqT K H a xs) (k : R (Itt K a) H) : TpE K R (.ref a) H := ⟨a, rfl, ⟨xs, h⟩, k⟩
theorem loopR {lo : Int} {n : Nat} (Pv : Nat → L2.St → Hp → Prop) (h0 : Pv 0 σ H) (hs : ∀ i σ H, i < n → Pv i σ H → g (.int (lo + i)) σ H fun σ2 H2 => tb (En (Pv (i + 1)) (RT D) (NX D) (Pv (i + 1))) σ2 H2)
    (hd : ∀ σ H, Pv n σ H → NX D σ H) : Loop (Itr lo n) g tb D σ H := for_range Pv h0 hs hd
theorem loopL {a : Addr} {xs : List V} (Pv : Nat → L2.St → Hp → Prop) (h0 : Pv 0 σ H) (hl : ∀ i σ H, i ≤ xs.length → Pv i σ H → SqL K H a xs)
    (hs : ∀ i x σ H, xs[i]? = some x → Pv i σ H → g x σ H fun σ2 H2 => tb (En (Pv (i + 1)) (RT D) (NX D) (Pv (i + 1))) σ2 H2) (hd : ∀ σ H, Pv xs.length σ H → NX D σ H) : Loop (Itl K a) g tb D σ H := for_list Pv h0 hl hs hd
theorem loopT {a : Addr} {xs : List V} (Pv : Nat → L2.St → Hp → Prop) (h0 : Pv 0 σ H) (hl : ∀ i σ H, i ≤ xs.length → Pv i σ H → SqT K H a xs)
    (hs : ∀ i x σ H, xs[i]? = some x → Pv i σ H → g x σ H fun σ2 H2 => tb (En (Pv (i + 1)) (RT D) (NX D) (Pv (i + 1))) σ2 H2) (hd : ∀ σ H, Pv xs.length σ H → NX D σ H) : Loop (Itt K a) g tb D σ H := for_tup Pv h0 hl hs hd
def WT (Pv : Nat → L2.St → Hp → Prop) (m : Nat) (tb : TS) (D : Ends) (σ : L2.St) (H : Hp) : Prop := ∃ N : L2.St → Hp → Prop, (∀ σ' H', N σ' H' → ∃ m', m' < m ∧ Pv m' σ' H') ∧ tb { D with nx := N, ct := N, bk := D.nx } σ H
def WN (Pv : Nat → L2.St → Hp → Prop) (m : Nat) : L2.St → Hp → Prop := fun σ2 H2 => ∃ m', m' < m ∧ Pv m' σ2 H2
theorem w_wt {Pv : Nat → L2.St → Hp → Prop} {m : Nat} (k : tb (En (WN Pv m) (RT D) (NX D) (WN Pv m)) σ H) : WT Pv m tb D σ H := ⟨_, fun _ _ z => z, k⟩
theorem w_while (Pv : Nat → L2.St → Hp → Prop) (m0 : Nat) (h0 : Pv m0 σ H)
    (hs : ∀ m σ' H', Pv m σ' H' → c σ' H' fun b H1 => if b = true then WT Pv m tb D σ' H1 else NX D σ' H1) : tWhile c tb D σ H := ⟨Pv, ⟨m0, h0⟩, hs⟩
end
/-! ### list comprehensions -/
def LcL (J : It) (g : TG) (tt : TT) (te : TE) (vs : List Nat) (σ : L2.St) (H1 : Hp) (Q : VK) : Prop := ∀ D, H1 D = none → ∃ W : Nat → Nat → Hp → Prop, (∃ m, W 0 m (upd H1 D (.lst []))) ∧ ∀ i m H, W i m H →
  (J.stop i H ∧ Q (.ref D) H) ∨ (J.go i H ∧ ∃ Nx : Hp → Prop, (∀ H', Nx H' → ∃ m', m' < m ∧ W (i + 1) m' H') ∧ ∀ x H', J.yld i H x H' → g x (wipe σ vs) H' fun σ2 H2 => wipe σ2 vs = wipe σ vs ∧ tt σ2 H2 fun b H3 =>
    if b = true then te σ2 H3 fun y H4 => ∃ acc, H4 D = some (.lst acc) ∧ acc.length < sizeLine ∧ Nx (upd H4 D (.lst (acc ++ [y]))) else Nx H3)
def LcEnd (D : Addr) (y : V) (R : Hp → Prop) (H : Hp) : Prop := ∃ acc, H D = some (.lst acc) ∧ acc.length < sizeLine ∧ R (upd H D (.lst (acc ++ [y])))
def LcGo (vs : List Nat) (σ σ2 : L2.St) (R : Prop) : Prop := wipe σ2 vs = wipe σ vs ∧ R
section
variable {σ : L2.St} {H : Hp} {Q : VK} {g : TG} {tt : TT} {te : TE} {vs : List Nat} {K : PySem.W.Frag}
theorem w_lc {wi : TI} (k : wi σ H fun J H1 => LcL J g tt te vs σ H1 Q) : tLc wi g tt te vs σ H Q := k
theorem w_lcEnd {D : Addr} {y : V} {acc : List V} {R : Hp → Prop} (h : H D = some (.lst acc)) (z : acc.length < sizeLine) (k : ∀ H', Kp D H H' → H' D = some (.lst (acc ++ [y])) → R H') : LcEnd D y R H := ⟨acc, h, z, k _ kp_upd upd_same⟩
theorem w_lcGo {σ2 : L2.St} {R : Prop} (e : wipe σ2 vs = wipe σ vs) (k : R) : LcGo vs σ σ2 R := ⟨e, k⟩
theorem w_yes {QT : Bool → Hp → Prop} (k : QT true H) : tYes σ H QT := k
theorem lcR {lo : Int} {n : Nat} (Pv : Addr → Nat → Hp → Prop) (h0 : ∀ D H', H D = none → Sm H H' → H' D = some (.lst []) → Pv D 0 H')
    (hs : ∀ D i H', H D = none → i < n → Pv D i H' → g (.int (lo + i)) (wipe σ vs) H' fun σ2 H2 => LcGo vs σ σ2 (tt σ2 H2 fun b H3 => if b = true then te σ2 H3 fun y H4 => LcEnd D y (Pv D (i + 1)) H4 else Pv D (i + 1) H3))
    (hd : ∀ D H', H D = none → Pv D n H' → Q (.ref D) H') : LcL (Itr lo n) g tt te vs σ H Q := fun D hD =>
  lc_range (Pv D) (h0 D _ hD (sm_new hD) upd_same) (fun i H' hi p => hs D i H' hD hi p) (fun H' p => hd D H' hD p)
theorem lcLs {a : Addr} {xs : List V} (Pv : Addr → Nat → Hp → Prop) (h0 : ∀ D H', H D = none → Sm H H' → H' D = some (.lst []) → Pv D 0 H') (hl : ∀ D i H', H D = none → i ≤ xs.length → Pv D i H' → SqL K H' a xs)
    (hs : ∀ D i x H', H D = none → xs[i]? = some x → Pv D i H' → g x (wipe σ vs) H' fun σ2 H2 => LcGo vs σ σ2 (tt σ2 H2 fun b H3 => if b = true then te σ2 H3 fun y H4 => LcEnd D y (Pv D (i + 1)) H4 else Pv D (i + 1) H3))
    (hd : ∀ D H', H D = none → Pv D xs.length H' → Q (.ref D) H') : LcL (Itl K a) g tt te vs σ H Q := fun D hD =>
  lc_list (xs := xs) (Pv D) (h0 D _ hD (sm_new hD) upd_same) (fun i H' hi p => hl D i H' hD hi p) (fun i x H' hi p => hs D i x H' hD hi p) (fun H' p => hd D H' hD p)
theorem lcTp {a : Addr} {xs : List V} (Pv : Addr → Nat → Hp → Prop) (h0 : ∀ D H', H D = none → Sm H H' → H' D = some (.lst []) → Pv D 0 H') (hl : ∀ D i H', H D = none → i ≤ xs.length → Pv D i H' → SqT K H' a xs)
    (hs : ∀ D i x H', H D = none → xs[i]? = some x → Pv D i H' → g x (wipe σ vs) H' fun σ2 H2 => LcGo vs σ σ2 (tt σ2 H2 fun b H3 => if b = true then te σ2 H3 fun y H4 => LcEnd D y (Pv D (i + 1)) H4 else Pv D (i + 1) H3))
    (hd : ∀ D H', H D = none → Pv D xs.length H' → Q (.ref D) H') : LcL (Itt K a) g tt te vs σ H Q := fun D hD =>
  lc_tup (xs := xs) (Pv D) (h0 D _ hD (sm_new hD) upd_same) (fun i H' hi p => hl D i H' hD hi p) (fun i x H' hi p => hs D i x H' hD hi p) (fun H' p => hd D H' hD p)
end
/-! ### keywords -/
theorem rel_0 {r1 : List Value} (h : Vals [] r1) : r1 = [] := by cases h; rfl
theorem rel_1 {x : V} {xs : List V} {us : List Value} (h : Vals (x :: xs) us) : ∃ u vs, us = u :: vs ∧ RelV x u ∧ Vals xs vs := by
  cases h with
  | cons a b => exact ⟨_, _, rfl, a, b⟩
/-! ### steps -/
section
variable {σ : L2.St} {H : Hp} {Q : VK} {QT : Bool → Hp → Prop} {QA : List V → Hp → Prop} {D : Ends} {K : PySem.W.Frag} {te ta tb : TE} {tt tu : TT} {t1 t2 : TS} {v x y : V} {i j : Int} {b : Bool}
theorem w_var {n : Nat} (h : σ[n]? = some (some v)) (k : Q v H) : tVar n σ H Q := ⟨v, h, k⟩
theorem w_c (k : Q v H) : tC v σ H Q := k
theorem w_op {r : R2} (k : ta σ H fun x H1 => tb σ H1 fun y H2 => r x y H2 Q) : tOp r ta tb σ H Q := k
theorem w_un {r : V → Hp → VK → Prop} (k : ta σ H fun x H1 => r x H1 Q) : tUn r ta σ H Q := k
theorem w_rU {g : Int → V} (k : Q (g i) H) : rU g (.int i) H Q := ⟨i, rfl, k⟩
theorem inV_S2 {s a c : Str} : inV (.str s) [.str a, .str c] = decide (s = a ∨ s = c) := by
  show ((a == s) || ((c == s) || false)) = _
  rw [Bool.or_false]
  by_cases h1 : s = a
  · subst h1; simp
  · by_cases h2 : s = c
    · subst h2; simp
    · have e1 : (a == s) = false := by simpa using fun e : a = s => h1 e.symm
      have e2 : (c == s) = false := by simpa using fun e : c = s => h2 e.symm
      rw [e1, e2, decide_eq_false (by rintro (h | h); exact h1 h; exact h2 h)]
      rfl
theorem w_inS2 {p : Addr} {s a c : Str} (h : SqT K H p [.str a, .str c]) (k : Q (.bl (decide (s = a ∨ s = c))) H) : rIn K false (.str s) (.ref p) H Q := ⟨p, _, rfl, .inr h, rfl, rfl, by rw [inV_S2]; exact k⟩
theorem w_niS2 {p : Addr} {s a c : Str} (h : SqT K H p [.str a, .str c]) (k : Q (.bl (!decide (s = a ∨ s = c))) H) : rIn K true (.str s) (.ref p) H Q := ⟨p, _, rfl, .inr h, rfl, rfl, by rw [inV_S2]; exact k⟩
theorem w_cb {r : List V → Hp → VK → Prop} {t : TA} (k : t σ H fun vs H1 => r vs H1 Q) : tCB r t σ H Q := k
theorem w_nil (k : QA [] H) : tNil σ H QA := k
theorem w_cons {tr : TA} (k : ta σ H fun x H1 => tr σ H1 fun xs H2 => QA (x :: xs) H2) : tCons ta tr σ H QA := k
def NewL (xs : List V) (H : Hp) (Q : VK) : Prop := xs.length ≤ sizeLine ∧ ∀ p, H p = none → Q (.ref p) (upd H p (.lst xs))
def NewT (xs : List V) (H : Hp) (Q : VK) : Prop := xs.length ≤ sizeLine ∧ ∀ p, H p = none → Q (.ref p) (upd H p (.tup xs))
theorem w_lst {t : TA} (k : t σ H fun xs H1 => NewL xs H1 Q) : tLst t σ H Q := k
theorem w_tup {t : TA} (k : t σ H fun xs H1 => NewT xs H1 Q) : tTup t σ H Q := k
theorem w_newL {xs : List V} (z : xs.length ≤ sizeLine) (k : ∀ p H', H p = none → Sm H H' → H' p = some (.lst xs) → Q (.ref p) H') : NewL xs H Q := ⟨z, fun p hp => k p _ hp (sm_new hp) upd_same⟩
theorem w_newT {xs : List V} (z : xs.length ≤ sizeLine) (k : ∀ p H', H p = none → Sm H H' → H' p = some (.tup xs) → Q (.ref p) H') : NewT xs H Q := ⟨z, fun p hp => k p _ hp (sm_new hp) upd_same⟩
theorem w_call {sp : Sp} {E : XK} {t : TA} (k : t σ H fun vs H1 => SpC sp vs H1 Q E) : tCall sp [] E t σ H Q := k
theorem w_sp {sp : Sp} {E : XK} {vs : List V} (k : sp vs H Q E) : SpC sp vs H Q E := by unfold SpC; rw [List.append_nil]; exact k
theorem w_callK {sp : Sp} {gV : List V → List V → List V} {E : XK} {t tk : TA} (k : t σ H fun vs H1 => tk σ H1 fun zs H2 => sp (gV vs zs) H2 Q E) : tCallK sp gV E t tk σ H Q := k
/-! values of operations -/
theorem w_ixL' {p : Addr} {xs : List V} (h : SqL K H p xs) (a : atI xs i = some v) (k : Q v H) : rIx K (.ref p) (.int i) H Q := .inl ⟨p, xs, i, v, rfl, rfl, h, a, k⟩
theorem w_addI (k : Q (.int (i + j)) H) : gAdd K (.int i) (.int j) H Q := .inl ⟨i, j, rfl, rfl, k⟩
theorem w_addS {a b : Str} (z : a.length + b.length ≤ sizeLine) (k : Q (.str (a ++ b)) H) : gAdd K (.str a) (.str b) H Q := .inr (.inl ⟨a, b, rfl, rfl, z, k⟩)
theorem w_addL {l m : Addr} {xs ys : List V} (h1 : H l = some (.lst xs)) (h2 : H m = some (.lst ys)) (z : xs.length + ys.length ≤ sizeLine) (k : ∀ p H', H p = none → Sm H H' → H' p = some (.lst (xs ++ ys)) → Q (.ref p) H') :
    gAdd K (.ref l) (.ref m) H Q := .inr (.inr (.inl ⟨l, m, xs, ys, rfl, rfl, h1, h2, z, fun p hp => k p _ hp (sm_new hp) upd_same⟩))
theorem w_I0 {g : Int → Int → V} (k : Q (g i j) H) : rI0 g (.int i) (.int j) H Q := ⟨i, j, rfl, rfl, k⟩
theorem w_I {C : Int → Int → Prop} {g : Int → Int → V} (c : C i j) (k : Q (g i j) H) : rI C g (.int i) (.int j) H Q := ⟨i, j, rfl, rfl, c, k⟩
theorem w_mulI (c : CM i j) (k : Q (.int (i * j)) H) : gMul (.int i) (.int j) H Q := by
  rcases c with c | c
  · exact .inl ⟨i, j, rfl, rfl, c, k⟩
  · exact .inr (.inl ⟨i, j, rfl, rfl, c, k⟩)
theorem w_divI (c : CDivW i j) (k : Q (.int (i / j)) H) : gDiv (.int i) (.int j) H Q := ⟨i, j, rfl, rfl, c, k⟩
theorem w_modI (c : 0 < j) (k : Q (.int (i % j)) H) : gMod (.int i) (.int j) H Q := ⟨i, j, rfl, rfl, c, k⟩
theorem w_modF (c : 0 < j) (k : ∀ z : Int, z = i % j → 0 ≤ z → z < j → (0 ≤ i → z ≤ i) → Q (.int z) H) : gMod (.int i) (.int j) H Q :=
  w_modI c (k _ rfl (Int.emod_nonneg _ (Int.ne_of_gt c)) (Int.emod_lt_of_pos _ c) fun h => by
    by_cases h2 : i < j
    · rw [Int.emod_eq_of_lt h h2]; exact Int.le_refl _
    · have := Int.emod_lt_of_pos i c
      omega)
theorem w_shlI (c : CShl i j) (k : Q (.int (i * 2 ^ j.toNat)) H) : gShl (.int i) (.int j) H Q := ⟨i, j, rfl, rfl, c, k⟩
theorem w_powI (c : CPow i j) (k : Q (.int (i ^ j.toNat)) H) : gPow (.int i) (.int j) H Q := ⟨i, j, rfl, rfl, c, k⟩
theorem w_shr1 (k : Q (.int (i / 2)) H) : gShr (.int i) (.int 1) H Q := ⟨i, 1, rfl, rfl, (show (0 : Int) ≤ 1 by decide), (show Q (.int (i / 2 ^ Int.toNat 1)) H from k)⟩
theorem w_iaddI (k : Q (.int (i + j)) H) : gIAdd (.int i) (.int j) H Q := .inl ⟨i, j, rfl, rfl, k⟩
theorem w_iaddS {a b : Str} (z : a.length + b.length ≤ sizeLine) (k : Q (.str (a ++ b)) H) : gIAdd (.str a) (.str b) H Q := .inr ⟨a, b, rfl, rfl, z, k⟩
theorem w_imulI (c : CM i j) (k : Q (.int (i * j)) H) : gIMul (.int i) (.int j) H Q := by
  rcases c with c | c
  · exact .inl ⟨i, j, rfl, rfl, c, k⟩
  · exact .inr ⟨i, j, rfl, rfl, c, k⟩
theorem w_xorI (k : Q (.int (Builtin.bitXor i j)) H) : gXor (.int i) (.int j) H Q := ⟨i, j, rfl, rfl, k⟩
theorem w_isiIb (k : Q (.bl false) H) : rIsi K [.int i, .ty "bool"] H Q := ⟨_, _, _, _, _, rfl, .ty _, .base (.int _), kit_ty (by decide +kernel), k⟩
theorem w_isiIi (k : Q (.bl true) H) : rIsi K [.int i, .ty "int"] H Q := ⟨_, _, _, _, _, rfl, .ty _, .base (.int _), kit_ty (by decide +kernel), k⟩
theorem w_isiBb (k : Q (.bl true) H) : rIsi K [.bl b, .ty "bool"] H Q := ⟨_, _, _, _, _, rfl, .ty _, .base (.bl _), kit_ty (by decide +kernel), k⟩
theorem w_isiSs {s : Str} (k : Q (.bl true) H) : rIsi K [.str s, .ty "str"] H Q := ⟨_, _, _, _, _, rfl, .ty _, .base (.str _), kit_ty (by decide +kernel), k⟩
theorem w_isiTup {a : Addr} {xs : List V} (h : H a = some (.tup xs)) (k : Q (.bl true) H) : rIsi K [.ref a, .ty "tuple"] H Q := ⟨_, _, _, _, _, rfl, .ty _, .base (.tup h), kit_ty (by decide +kernel), k⟩
theorem w_ixInts {p : Addr} {ns : List Int} (h : SqL K H p (ns.map V.int)) (h0 : 0 ≤ i) (h1 : i < ((ns.map V.int).length : Int)) (k : ∀ n : Int, n ∈ ns → Q (.int n) H) : rIx K (.ref p) (.int i) H Q := by
  obtain ⟨j, rfl⟩ := Int.eq_ofNat_of_zero_le h0
  have h2 : j < ns.length := by rw [List.length_map] at h1; omega
  exact w_ixL' h (atI_nat (by rw [List.getElem?_map, List.getElem?_eq_getElem h2]; rfl)) (k _ (List.getElem_mem h2))
theorem w_ix2I {p : Addr} {x y : Int} (h : SqL K H p [.int x, .int y]) (h0 : 0 ≤ i) (h1 : i < 2) (k : ∀ z : Int, i = 0 ∧ z = x ∨ i = 1 ∧ z = y → Q (.int z) H) : rIx K (.ref p) (.int i) H Q := by
  rcases (show i = 0 ∨ i = 1 by omega) with rfl | rfl
  · exact w_ixL' h (atI_nat (j := 0) rfl) (k _ (.inl ⟨rfl, rfl⟩))
  · exact w_ixL' h (atI_nat (j := 1) rfl) (k _ (.inr ⟨rfl, rfl⟩))
theorem w_ix3I {p : Addr} {x0 x1 x2 : Int} (h : SqL K H p [.int x0, .int x1, .int x2]) (h0 : 0 ≤ i) (h1 : i < 3) (k : ∀ z : Int, z = x0 ∨ z = x1 ∨ z = x2 → Q (.int z) H) : rIx K (.ref p) (.int i) H Q := by
  rcases (show i = 0 ∨ i = 1 ∨ i = 2 by omega) with rfl | rfl | rfl
  · exact w_ixL' h (atI_nat (j := 0) rfl) (k _ (by omega))
  · exact w_ixL' h (atI_nat (j := 1) rfl) (k _ (by omega))
  · exact w_ixL' h (atI_nat (j := 2) rfl) (k _ (by omega))
theorem w_ix4I {p : Addr} {x0 x1 x2 x3 : Int} (h : SqL K H p [.int x0, .int x1, .int x2, .int x3]) (h0 : 0 ≤ i) (h1 : i < 4) (k : ∀ z : Int, z = x0 ∨ z = x1 ∨ z = x2 ∨ z = x3 → Q (.int z) H) : rIx K (.ref p) (.int i) H Q := by
  rcases (show i = 0 ∨ i = 1 ∨ i = 2 ∨ i = 3 by omega) with rfl | rfl | rfl | rfl
  · exact w_ixL' h (atI_nat (j := 0) rfl) (k _ (by omega))
  · exact w_ixL' h (atI_nat (j := 1) rfl) (k _ (by omega))
  · exact w_ixL' h (atI_nat (j := 2) rfl) (k _ (by omega))
  · exact w_ixL' h (atI_nat (j := 3) rfl) (k _ (by omega))
theorem w_ix5I {p : Addr} {x0 x1 x2 x3 x4 : Int} (h : SqL K H p [.int x0, .int x1, .int x2, .int x3, .int x4]) (h0 : 0 ≤ i) (h1 : i < 5) (k : ∀ z : Int, z = x0 ∨ z = x1 ∨ z = x2 ∨ z = x3 ∨ z = x4 → Q (.int z) H) : rIx K (.ref p) (.int i) H Q := by
  rcases (show i = 0 ∨ i = 1 ∨ i = 2 ∨ i = 3 ∨ i = 4 by omega) with rfl | rfl | rfl | rfl | rfl
  · exact w_ixL' h (atI_nat (j := 0) rfl) (k _ (by omega))
  · exact w_ixL' h (atI_nat (j := 1) rfl) (k _ (by omega))
  · exact w_ixL' h (atI_nat (j := 2) rfl) (k _ (by omega))
  · exact w_ixL' h (atI_nat (j := 3) rfl) (k _ (by omega))
  · exact w_ixL' h (atI_nat (j := 4) rfl) (k _ (by omega))
theorem w_ix6I {p : Addr} {x0 x1 x2 x3 x4 x5 : Int} (h : SqL K H p [.int x0, .int x1, .int x2, .int x3, .int x4, .int x5]) (h0 : 0 ≤ i) (h1 : i < 6) (k : ∀ z : Int, z = x0 ∨ z = x1 ∨ z = x2 ∨ z = x3 ∨ z = x4 ∨ z = x5 → Q (.int z) H) : rIx K (.ref p) (.int i) H Q := by
  rcases (show i = 0 ∨ i = 1 ∨ i = 2 ∨ i = 3 ∨ i = 4 ∨ i = 5 by omega) with rfl | rfl | rfl | rfl | rfl | rfl
  · exact w_ixL' h (atI_nat (j := 0) rfl) (k _ (by omega))
  · exact w_ixL' h (atI_nat (j := 1) rfl) (k _ (by omega))
  · exact w_ixL' h (atI_nat (j := 2) rfl) (k _ (by omega))
  · exact w_ixL' h (atI_nat (j := 3) rfl) (k _ (by omega))
  · exact w_ixL' h (atI_nat (j := 4) rfl) (k _ (by omega))
  · exact w_ixL' h (atI_nat (j := 5) rfl) (k _ (by omega))
theorem w_ix7I {p : Addr} {x0 x1 x2 x3 x4 x5 x6 : Int} (h : SqL K H p [.int x0, .int x1, .int x2, .int x3, .int x4, .int x5, .int x6]) (h0 : 0 ≤ i) (h1 : i < 7) (k : ∀ z : Int, z = x0 ∨ z = x1 ∨ z = x2 ∨ z = x3 ∨ z = x4 ∨ z = x5 ∨ z = x6 → Q (.int z) H) : rIx K (.ref p) (.int i) H Q := by
  rcases (show i = 0 ∨ i = 1 ∨ i = 2 ∨ i = 3 ∨ i = 4 ∨ i = 5 ∨ i = 6 by omega) with rfl | rfl | rfl | rfl | rfl | rfl | rfl
  · exact w_ixL' h (atI_nat (j := 0) rfl) (k _ (by omega))
  · exact w_ixL' h (atI_nat (j := 1) rfl) (k _ (by omega))
  · exact w_ixL' h (atI_nat (j := 2) rfl) (k _ (by omega))
  · exact w_ixL' h (atI_nat (j := 3) rfl) (k _ (by omega))
  · exact w_ixL' h (atI_nat (j := 4) rfl) (k _ (by omega))
  · exact w_ixL' h (atI_nat (j := 5) rfl) (k _ (by omega))
  · exact w_ixL' h (atI_nat (j := 6) rfl) (k _ (by omega))
theorem w_ix8I {p : Addr} {x0 x1 x2 x3 x4 x5 x6 x7 : Int} (h : SqL K H p [.int x0, .int x1, .int x2, .int x3, .int x4, .int x5, .int x6, .int x7]) (h0 : 0 ≤ i) (h1 : i < 8) (k : ∀ z : Int, z = x0 ∨ z = x1 ∨ z = x2 ∨ z = x3 ∨ z = x4 ∨ z = x5 ∨ z = x6 ∨ z = x7 → Q (.int z) H) : rIx K (.ref p) (.int i) H Q := by
  rcases (show i = 0 ∨ i = 1 ∨ i = 2 ∨ i = 3 ∨ i = 4 ∨ i = 5 ∨ i = 6 ∨ i = 7 by omega) with rfl | rfl | rfl | rfl | rfl | rfl | rfl | rfl
  · exact w_ixL' h (atI_nat (j := 0) rfl) (k _ (by omega))
  · exact w_ixL' h (atI_nat (j := 1) rfl) (k _ (by omega))
  · exact w_ixL' h (atI_nat (j := 2) rfl) (k _ (by omega))
  · exact w_ixL' h (atI_nat (j := 3) rfl) (k _ (by omega))
  · exact w_ixL' h (atI_nat (j := 4) rfl) (k _ (by omega))
  · exact w_ixL' h (atI_nat (j := 5) rfl) (k _ (by omega))
  · exact w_ixL' h (atI_nat (j := 6) rfl) (k _ (by omega))
  · exact w_ixL' h (atI_nat (j := 7) rfl) (k _ (by omega))
theorem w_mulS {a : Str} (c : MulOk a i) (k : Q (.str (Txt.mul a i)) H) : gMulS (.str a) (.int i) H Q := ⟨a, i, rfl, rfl, c, k⟩
theorem shl1_ok (h0 : 0 ≤ j) (h : j ≤ 1000000) : CShl 1 j := by
  refine ⟨h0, ?_⟩
  have : Builtin.Int.intBits 1 ≤ 1 := intBits_le (by decide)
  omega
theorem pow_bd {m : Nat} (h : j ≤ (m : Int)) : 1 ≤ 1 * (2 : Int) ^ j.toNat ∧ 1 * (2 : Int) ^ j.toNat ≤ 2 ^ m ∧ (1 ≤ j → 2 ≤ 1 * (2 : Int) ^ j.toNat) := by
  have e : ∀ n : Nat, (2 : Int) ^ n = ((2 ^ n : Nat) : Int) := fun n => by rw [Int.natCast_pow]; rfl
  have h1 : 2 ^ j.toNat ≤ 2 ^ m := Nat.pow_le_pow_right (by decide) (by omega)
  have h2 : 0 < 2 ^ j.toNat := Nat.two_pow_pos _
  rw [Int.one_mul, e, e]
  refine ⟨by omega, by omega, fun hj => ?_⟩
  have h3 : 2 ^ 1 ≤ 2 ^ j.toNat := Nat.pow_le_pow_right (by decide) (by omega)
  omega
theorem and_nat {a b : Nat} : Builtin.bitAnd (a : Int) (b : Int) = ((a &&& b : Nat) : Int) := by
  have h := bitAnd_pp (Int.natCast_nonneg a) (Int.natCast_nonneg b)
  rw [Int.toNat_natCast, Int.toNat_natCast] at h
  exact h
theorem and_bd (h0 : 0 ≤ i) (h1 : 0 ≤ j) : 0 ≤ Builtin.bitAnd i j ∧ Builtin.bitAnd i j ≤ i ∧ Builtin.bitAnd i j ≤ j := by
  obtain ⟨a, rfl⟩ := Int.eq_ofNat_of_zero_le h0
  obtain ⟨b, rfl⟩ := Int.eq_ofNat_of_zero_le h1
  rw [and_nat]
  have e1 := @Nat.and_le_left a b
  have e2 := @Nat.and_le_right a b
  omega
def gOr : R2 := rI0 fun i j => .int (Builtin.bitOr i j)
theorem op_gOr {X : Cx} : OpR X (binaryOp .BitOr) gOr := L2.op_or
theorem w_orF (h0 : 0 ≤ i) (h1 : 0 ≤ j) (k : ∀ z : Int, z = Builtin.bitOr i j → 0 ≤ z → z ≤ i + j → Q (.int z) H) : gOr (.int i) (.int j) H Q := ⟨i, j, rfl, rfl, k _ rfl (by rw [L2.bitOr_nn h0 h1]; exact Int.natCast_nonneg _) (by rw [bitOr_and]; have := (and_bd h0 h1).1; omega)⟩
theorem dV_bl {s t : Bool} : decide (V.bl s = V.bl t) = decide (s = t) := by cases s <;> cases t <;> rfl
theorem w_eqB {s t : Bool} (k : Q (.bl (decide (s = t))) H) : gEq K (.bl s) (.bl t) H Q := .inl ⟨rfl, by rw [dV_bl]; exact k⟩
theorem w_neB {s t : Bool} (k : Q (.bl (!decide (s = t))) H) : gNe K (.bl s) (.bl t) H Q := .inl ⟨rfl, by rw [dV_bl]; exact k⟩
def gIs : R2 := fun x y H Q => y = .non ∧ Q (.bl (decide (x = .non))) H
def gNot : R2 := fun x y H Q => y = .non ∧ Q (.bl (!decide (x = .non))) H
theorem op_gIs {X : Cx} : OpR X (compareOp .Is) gIs := op_isN
theorem op_gNot {X : Cx} : OpR X (compareOp .IsNot) gNot := op_notN
theorem op_gIsB {X : Cx} : OpR X (compareOp .Is) rIsB := op_isBl
theorem op_gNotB {X : Cx} : OpR X (compareOp .IsNot) rNotB := op_notBl
theorem w_isN0 (k : Q (.bl true) H) : gIs .non .non H Q := ⟨rfl, by simpa using k⟩
theorem w_notN0 (k : Q (.bl false) H) : gNot .non .non H Q := ⟨rfl, by simpa using k⟩
theorem w_isNx (h : x ≠ .non) (k : Q (.bl false) H) : gIs x .non H Q := ⟨rfl, by rw [decide_eq_false h]; exact k⟩
theorem w_notNx (h : x ≠ .non) (k : Q (.bl true) H) : gNot x .non H Q := ⟨rfl, by rw [decide_eq_false h]; exact k⟩
theorem w_isBT (k : Q (.bl b) H) : rIsB (.bl b) (.bl true) H Q := ⟨b, true, rfl, rfl, by cases b <;> exact k⟩
theorem w_notBT (k : Q (.bl (!b)) H) : rNotB (.bl b) (.bl true) H Q := ⟨b, true, rfl, rfl, by cases b <;> exact k⟩
theorem w_sum {p : Addr} {ns : List Int} (h : SqL K H p (ns.map V.int)) (k : Q (.int ns.sum) H) : rSum K [.ref p] H Q := ⟨p, ns, rfl, h, k⟩
theorem w_all {p : Addr} {bs : List Bool} (h : SqL K H p (bs.map V.bl)) (k : Q (.bl (bs.all id)) H) : rAll K [.ref p] H Q := ⟨p, bs, rfl, h, k⟩
theorem w_shl1F (h0 : 0 ≤ j) (h : j ≤ 1000000) (k : ∀ z : Int, z = 2 ^ j.toNat → 1 ≤ z → (1 ≤ j → 2 ≤ z) → (j ≤ 9 → z ≤ 512) → (j ≤ 40 → z ≤ 1099511627776) → Q (.int z) H) : gShl (.int 1) (.int j) H Q := by
  obtain ⟨q1, q2, q3⟩ := pow_bd (j := j) (m := 1000000) (by omega)
  rw [Int.one_mul] at q1 q3
  refine w_shlI (shl1_ok h0 h) ?_
  rw [Int.one_mul]
  exact k _ rfl q1 q3 (fun h => by have := (pow_bd (j := j) (m := 9) (by omega)).2.1; rw [Int.one_mul] at this; omega) (fun h => by have := (pow_bd (j := j) (m := 40) (by omega)).2.1; rw [Int.one_mul] at this; omega)
theorem w_andF (h0 : 0 ≤ i) (h1 : 0 ≤ j) (k : ∀ z : Int, z = Builtin.bitAnd i j → 0 ≤ z → z ≤ i → z ≤ j → Q (.int z) H) : gAnd (.int i) (.int j) H Q := by
  obtain ⟨q1, q2, q3⟩ := and_bd h0 h1
  exact ⟨i, j, rfl, rfl, k _ rfl q1 q2 q3⟩
def BitsE (Q : VK) (x : V) (H : Hp) : Prop := ∃ i, x = .int i ∧ Q (.int (Builtin.Int.intBits i : Nat)) H
theorem w_bits {to : TE} (k : to σ H fun x H1 => BitsE Q x H1) : tBits to σ H Q := k
theorem bits_lt (i : Int) : i.natAbs < 2 ^ Builtin.Int.intBits i := by
  unfold Builtin.Int.intBits
  split
  · rename_i h
    have : i = 0 := by simpa using h
    subst this; decide
  · exact Nat.lt_log2_self
theorem w_bitsE (k : ∀ m : Nat, m = Builtin.Int.intBits i → i.natAbs < 2 ^ m → Q (.int m) H) : BitsE Q (.int i) H := ⟨i, rfl, k _ rfl (bits_lt i)⟩
theorem w_shrI (c : 0 ≤ j) (k : Q (.int (i / 2 ^ j.toNat)) H) : gShr (.int i) (.int j) H Q := ⟨i, j, rfl, rfl, c, k⟩
theorem w_andI (k : Q (.int (Builtin.bitAnd i j)) H) : gAnd (.int i) (.int j) H Q := ⟨i, j, rfl, rfl, k⟩
theorem w_ltI (k : Q (.bl (decide (i < j))) H) : gLt (.int i) (.int j) H Q := ⟨i, j, rfl, rfl, k⟩
theorem w_leI (k : Q (.bl (decide (i ≤ j))) H) : gLe (.int i) (.int j) H Q := ⟨i, j, rfl, rfl, k⟩
theorem w_gtI (k : Q (.bl (decide (j < i))) H) : gGt (.int i) (.int j) H Q := ⟨i, j, rfl, rfl, k⟩
theorem w_geI (k : Q (.bl (decide (j ≤ i))) H) : gGe (.int i) (.int j) H Q := ⟨i, j, rfl, rfl, k⟩
theorem dV_int : decide (V.int i = V.int j) = decide (i = j) := by
  by_cases h : i = j
  · subst h; simp
  · rw [decide_eq_false h, decide_eq_false (fun e => h (V.int.inj e))]
theorem dV_str {s t : Str} : decide (V.str s = V.str t) = decide (s = t) := by
  by_cases h : s = t
  · subst h; simp
  · rw [decide_eq_false h, decide_eq_false (fun e => h (V.str.inj e))]
theorem w_eqI (k : Q (.bl (decide (i = j))) H) : gEq K (.int i) (.int j) H Q := .inl ⟨rfl, by rw [dV_int]; exact k⟩
theorem w_neI (k : Q (.bl (!decide (i = j))) H) : gNe K (.int i) (.int j) H Q := .inl ⟨rfl, by rw [dV_int]; exact k⟩
theorem w_eqS {s t : Str} (k : Q (.bl (decide (s = t))) H) : gEq K (.str s) (.str t) H Q := .inl ⟨rfl, by rw [dV_str]; exact k⟩
theorem w_neS {s t : Str} (k : Q (.bl (!decide (s = t))) H) : gNe K (.str s) (.str t) H Q := .inl ⟨rfl, by rw [dV_str]; exact k⟩
theorem w_lenL {p : Addr} {xs : List V} (h : SqL K H p xs) (k : Q (.int (xs.length : Int)) H) : gLen K [.ref p] H Q := .inl ⟨p, xs, rfl, .inl h, k⟩
theorem w_lenT {p : Addr} {xs : List V} (h : SqT K H p xs) (k : Q (.int (xs.length : Int)) H) : gLen K [.ref p] H Q := .inl ⟨p, xs, rfl, .inr h, k⟩
theorem w_lenS {s : Str} (z : s.length ≤ sizeLine) (k : Q (.int (s.length : Int)) H) : gLen K [.str s] H Q := .inr ⟨s, rfl, z, k⟩
theorem w_intB (k1 : b = true → Q (.int 1) H) (k0 : b = false → Q (.int 0) H) : gIntC [.bl b] H Q := .inr ⟨b, rfl, by cases b; exact k0 rfl; exact k1 rfl⟩
theorem w_intD {c : Prop} [Decidable c] (k1 : c → Q (.int 1) H) (k0 : ¬ c → Q (.int 0) H) : gIntC [.bl (decide c)] H Q := w_intB (fun e => k1 (of_decide_eq_true e)) (fun e => k0 (of_decide_eq_false e))
theorem w_intDn {c : Prop} [Decidable c] (k1 : ¬ c → Q (.int 1) H) (k0 : c → Q (.int 0) H) : gIntC [.bl (!decide c)] H Q := w_intB (fun e => k1 (fun z => by rw [decide_eq_true z] at e; cases e)) (fun e => k0 (Decidable.byContradiction fun z => by rw [decide_eq_false z] at e; cases e))
theorem w_intI (k : Q (.int i) H) : gIntC [.int i] H Q := .inl ⟨i, rfl, k⟩
theorem w_max (k : Q (.int (max i j)) H) : gMax [.int i, .int j] H Q := ⟨i, j, rfl, by
  have e : (if j > i then j else i) = max i j := by split <;> omega
  rw [e]; exact k⟩
theorem w_min (k : Q (.int (min i j)) H) : gMin [.int i, .int j] H Q := ⟨i, j, rfl, by
  have e : (if j < i then j else i) = min i j := by split <;> omega
  rw [e]; exact k⟩
theorem w_ixL {p : Addr} {xs : List V} (h : SqL K H p xs) (a : atI xs i = some v) (k : Q v H) : rIx K (.ref p) (.int i) H Q := .inl ⟨p, xs, i, v, rfl, rfl, h, a, k⟩
theorem w_ixT {p : Addr} {xs : List V} (h : SqT K H p xs) (a : atI xs i = some v) (k : Q v H) : rIx K (.ref p) (.int i) H Q := .inr (.inl ⟨p, xs, i, v, rfl, rfl, h, a, k⟩)
theorem w_ixS {z : Str} {c : Nat} (h : z.length ≤ sizeLine) (a : atI z.cps.toList i = some c) (k : Q (.str ⟨#[c]⟩) H) : rIx K (.str z) (.int i) H Q := .inr (.inr ⟨z, i, c, rfl, rfl, h, a, k⟩)
/-! tests -/
theorem w_test (k : te σ H fun x H' => IsBl x fun k => QT k H') : tTest te σ H QT := k
theorem w_isbl {R : Bool → Prop} (k : R b) : IsBl (.bl b) R := ⟨b, rfl, k⟩
theorem w_B (k : te σ H fun x H' => IsBl x fun k => QT k H') : tB te σ H QT := k
theorem w_and (k : tt σ H fun c H1 => if c = true then tu σ H1 QT else QT false H1) : tAnd tt tu σ H QT := k
theorem w_or (k : tt σ H fun c H1 => if c = true then QT true H1 else tu σ H1 QT) : tOr tt tu σ H QT := k
theorem w_not (k : tt σ H fun c H1 => QT (!c) H1) : tNot tt σ H QT := k
theorem w_ife (k : tt σ H fun c H1 => if c = true then ta σ H1 Q else tb σ H1 Q) : tIf tt ta tb σ H Q := k
theorem w_andV (k : ta σ H fun x H1 => IsBl x fun c => if c = true then tb σ H1 Q else Q (.bl false) H1) : tAndV ta tb σ H Q := k
theorem w_orV (k : ta σ H fun x H1 => IsBl x fun c => if c = true then Q (.bl true) H1 else tb σ H1 Q) : tOrV ta tb σ H Q := k
theorem w_notV (k : ta σ H fun x H1 => IsBl x fun c => Q (.bl (!c)) H1) : tNotV ta σ H Q := k
theorem w_if {c A B : Prop} [Decidable c] (h1 : c → A) (h2 : ¬ c → B) : if decide c = true then A else B := by
  by_cases h : c
  · rw [decide_eq_true h]; exact h1 h
  · rw [decide_eq_false h]; exact h2 h
theorem w_ifn {c A B : Prop} [Decidable c] (h1 : ¬ c → A) (h2 : c → B) : if (!decide c) = true then A else B := by
  by_cases h : c
  · rw [decide_eq_true h]; exact h2 h
  · rw [decide_eq_false h]; exact h1 h
theorem w_ifnn {c A B : Prop} [Decidable c] (h1 : c → A) (h2 : ¬ c → B) : if (!!decide c) = true then A else B := by
  by_cases h : c
  · rw [decide_eq_true h]; exact h1 h
  · rw [decide_eq_false h]; exact h2 h
theorem w_ifY {c A B : Prop} [Decidable c] (h : c) (k : A) : if decide c = true then A else B := by rw [decide_eq_true h]; exact k
theorem w_ifZ {c A B : Prop} [Decidable c] (h : ¬ c) (k : B) : if decide c = true then A else B := by rw [decide_eq_false h]; exact k
theorem w_ifnY {c A B : Prop} [Decidable c] (h : c) (k : B) : if (!decide c) = true then A else B := by rw [decide_eq_true h]; exact k
theorem w_ifnZ {c A B : Prop} [Decidable c] (h : ¬ c) (k : A) : if (!decide c) = true then A else B := by rw [decide_eq_false h]; exact k
theorem w_intY {c : Prop} [Decidable c] (h : c) (k : Q (.int 1) H) : gIntC [.bl (decide c)] H Q := by rw [decide_eq_true h]; exact .inr ⟨true, rfl, k⟩
theorem w_intZ {c : Prop} [Decidable c] (h : ¬ c) (k : Q (.int 0) H) : gIntC [.bl (decide c)] H Q := by rw [decide_eq_false h]; exact .inr ⟨false, rfl, k⟩
theorem w_ifB {A B : Prop} (h1 : b = true → A) (h2 : b = false → B) : if b = true then A else B := by
  cases b
  · exact h2 rfl
  · exact h1 rfl
theorem w_ifT {A B : Prop} (h : A) : if true = true then A else B := h
theorem w_ifF {A B : Prop} (h : B) : if false = true then A else B := h
theorem w_ifNT {A B : Prop} (h : B) : if (!true) = true then A else B := h
theorem w_ifNF {A B : Prop} (h : A) : if (!false) = true then A else B := h
/-! statements -/
theorem w_seq {n c d : L2.St → Hp → Prop} {r : VK} (k : t1 (En (t2 (En n r c d)) r c d) σ H) : tSeq t1 t2 (En n r c d) σ H := k
theorem w_asg {n : Nat} (k : te σ H fun x H1 => NX D (σ.set n (some x)) H1) : tAsg te (gName n) D σ H := k
theorem w_asgG {g : TG} (k : te σ H fun x H1 => g x σ H1 (NX D)) : tAsg te g D σ H := k
def Par (n m : Nat) (D : Ends) (σ : L2.St) (vs : List V) (H : Hp) : Prop := ∃ v w, vs = [v, w] ∧ D.nx ((σ.set n (some v)).set m (some w)) H
theorem w_par {n m : Nat} {t : TA} (k : t σ H fun vs H1 => Par n m D σ vs H1) : tPar n m t D σ H := k
theorem w_parE {n m : Nat} (k : NX D ((σ.set n (some x)).set m (some y)) H) : Par n m D σ [x, y] H := ⟨x, y, rfl, k⟩
def Par3 (n m l : Nat) (D : Ends) (σ : L2.St) (vs : List V) (H : Hp) : Prop := ∃ u v w, vs = [u, v, w] ∧ D.nx (((σ.set n (some u)).set m (some v)).set l (some w)) H
theorem w_par3 {n m l : Nat} {t : TA} (k : t σ H fun vs H1 => Par3 n m l D σ vs H1) : tPar3 n m l t D σ H := k
theorem w_par3E {n m l : Nat} {z : V} (k : NX D (((σ.set n (some x)).set m (some y)).set l (some z)) H) : Par3 n m l D σ [x, y, z] H := ⟨x, y, z, rfl, k⟩
theorem w_aug {n : Nat} {ti : TIp} (h : σ[n]? = some (some x)) (k : te σ H fun y H1 => ti x y H1 fun z H2 => NX D (σ.set n (some z)) H2) : tAug n te ti D σ H := ⟨x, h, k⟩
theorem w_ret (k : te σ H fun v H1 => RT D v H1) : tRet te D σ H := k
theorem w_drop (k : te σ H fun _ H1 => NX D σ H1) : tDrop te D σ H := k
theorem w_ifs (k : tt σ H fun b H1 => if b = true then t1 D σ H1 else t2 D σ H1) : tIfS tt t1 t2 D σ H := k
theorem w_next (k : NX D σ H) : tNext D σ H := k
theorem w_nx {n c d : L2.St → Hp → Prop} {r : VK} (k : n σ H) : NX (En n r c d) σ H := k
theorem w_rt {n c d : L2.St → Hp → Prop} {r : VK} (k : r v H) : RT (En n r c d) v H := k
theorem w_start {n : L2.St → Hp → Prop} {r : VK} {t : TS} (k : t (En n r (fun _ _ => False) (fun _ _ => False)) σ H) : t { nx := n, rt := r } σ H := k
theorem w_gname {n : Nat} {R : L2.St → Hp → Prop} (k : R (σ.set n (some v)) H) : gName n v σ H R := k
theorem w_gnil {R : L2.St → Hp → Prop} (k : R σ H) : gNil [] σ H R := ⟨rfl, k⟩
theorem w_gcons {g : TG} {u : TGs} {r : List V} {R : L2.St → Hp → Prop} (k : g v σ H fun σ' H' => u r σ' H' R) : gCons g u (v :: r) σ H R := ⟨v, r, rfl, k⟩
theorem w_gtup {a : Addr} {xs : List V} {n : Nat} {u : TGs} {R : L2.St → Hp → Prop} (h : SqT K H a xs) (l : xs.length = n) (k : u xs σ H R) : gTup2 K n u (.ref a) σ H R := ⟨a, xs, rfl, h, l, k⟩
theorem w_gsub {to ti : TE} {t : TSet} {R : L2.St → Hp → Prop} (k : to σ H fun o H1 => ti σ H1 fun i H2 => t o i v H2 fun H3 => R σ H3) : gSub to ti t v σ H R := k
theorem w_setL {l : Addr} {xs : List V} {n : Nat} {R : Hp → Prop} (h : H l = some (.lst xs)) (e : ixN xs.length i = some n) (k : ∀ H', Kp l H H' → H' l = some (.lst (xs.set n v)) → R H') : rSetL (.ref l) (.int i) v H R :=
  ⟨l, xs, i, n, rfl, rfl, h, e, k _ kp_upd upd_same⟩
theorem w_bm {T : String} {r : V → List V → Hp → VK → Prop} {to : TE} {t : TA} (k : to σ H fun x H1 => BmE K T x H1 (t σ H1 fun xs H2 => r x xs H2 Q)) : tBM K T r to t σ H Q := k
theorem w_bmL {l : Addr} {xs : List V} {R : Prop} (h : H l = some (.lst xs)) (k : R) : BmE K "list" (.ref l) H R := ⟨.inl ⟨rfl, xs, Or.inl (Or.inl h)⟩, k⟩
theorem w_app {l : Addr} {xs : List V} (h : H l = some (.lst xs)) (z : xs.length < sizeLine) (k : ∀ H', Kp l H H' → H' l = some (.lst (xs ++ [v])) → Q .non H') : rAppend (.ref l) [v] H Q :=
  ⟨l, xs, v, rfl, rfl, h, z, k _ kp_upd upd_same⟩
theorem ty_list {l : Addr} {xs : List V} (h : H l = some (.lst xs)) : tyV K "list" (.ref l) H := .inl ⟨rfl, xs, sq_of h⟩
theorem w_slL {a : Addr} {xs : List V} {lo hi : Option Int} (h : SqL K H a xs) (k : ∀ p H', H p = none → Sm H H' → H' p = some (.lst (cutV xs lo hi)) → Q (.ref p) H') : gSl K (.ref a) lo hi H Q := .inl ⟨a, xs, rfl, h, fun p hp => k p _ hp (sm_new hp) upd_same⟩
theorem cut_whole {xs : List V} {lo hi : Option Int} (h : HT.sIx xs.length 0 lo = 0 ∧ HT.sIx xs.length xs.length hi = xs.length) : cutV xs lo hi = xs := by
  unfold cutV
  rw [h.1, h.2, List.drop_zero, Nat.sub_zero, List.take_length]
theorem w_slT {a : Addr} {xs : List V} {lo hi : Option Int} (h : H a = some (.tup xs)) (k : ∀ p H', Sm H H' → H' p = some (.tup (cutV xs lo hi)) → Q (.ref p) H') : gSl K (.ref a) lo hi H Q :=
  .inr ⟨a, xs, rfl, st_of h, fun w => k a H (Same.refl _) (by rw [cut_whole w]; exact h), fun _ p hp => k p _ (sm_new hp) upd_same⟩
theorem w_catT {a b : Addr} {xs ys : List V} (h1 : H a = some (.tup xs)) (h2 : H b = some (.tup ys)) (z : xs.length + ys.length ≤ sizeLine) (k : ∀ p H', Sm H H' → H' p = some (.tup (xs ++ ys)) → Q (.ref p) H') : gAdd K (.ref a) (.ref b) H Q :=
  .inr (.inr (.inr ⟨a, b, xs, ys, rfl, rfl, st_of h1, st_of h2, z, fun e => k b H (Same.refl _) (by rw [e]; exact h2), fun _ e => k a H (Same.refl _) (by rw [e, List.append_nil]; exact h1), fun _ _ p hp => k p _ (sm_new hp) upd_same⟩))
theorem w_sl {r : V → Option Int → Option Int → Hp → VK → Prop} {tl th : TO} (k : te σ H fun x H1 => tl σ H1 fun l H2 => th σ H2 fun u H3 => r x l u H3 Q) : tSl r te tl th σ H Q := k
theorem w_po0 {R : Option Int → Hp → Prop} (k : R none H) : tNoPart σ H R := k
theorem w_po1 {R : Option Int → Hp → Prop} (k : te σ H fun x H1 => PartE R x H1) : tPart te σ H R := k
theorem w_poE {R : Option Int → Hp → Prop} (k : R (some i) H) : PartE R (.int i) H := ⟨i, rfl, k⟩
theorem w_clear {l : Addr} {xs : List V} (h : H l = some (.lst xs)) (k : ∀ H', Kp l H H' → H' l = some (.lst []) → Q .non H') : tyV K "list" (.ref l) H ∧ rClear (.ref l) [] H Q :=
  ⟨ty_list h, l, xs, rfl, rfl, h, k _ kp_upd upd_same⟩
end
/-! a field read inside a comprehension: the context's K is named -/
theorem pe_fldK {X : Cx} {K : PySem.W.Frag} (hK : X.K = K) {e : Expr} {f : Str} {pos : Pos} {ta : TE} (he : PE X e ta) (hb : attributeBase e f X.env (eval e X.env) = eval e X.env) : PE X (.Attribute e f pos) (tFld K ta f) := by
  rw [← hK]
  exact pe_fld he hb
end Rs
namespace Rs
open PySem L2 PyProof.Rows PySem.NumText
/-! ### the walk's own words -/
local macro_rules | `(tactic| tm_at "rlk") => `(tactic| first | with_reducible assumption | ((refine' g_lk ?sg ?sh); (case sg => with_reducible assumption); (case sh => tm_at "rlk0")) | fail "no")
local macro_rules | `(tactic| tm_at "rlk0") => `(tactic| first | with_reducible assumption | (refine' Same.get ?sa ?sb; (case sa => with_reducible assumption); (case sb => tm_at "rlk0")) | (refine' Kp.get ?sa ?sc ?sb; (case sa => with_reducible assumption); (case sc => tm_at "rne"); (case sb => tm_at "rlk0")) | fail "no")
local macro_rules | `(tactic| tm_at "rne") => `(tactic| first | with_reducible assumption | (apply Ne.symm; assumption) | (refine' ne_new ?sa ?sb; (case sa => with_reducible assumption); (case sb => tm_at "rlk")) | (refine' ne_new2 ?sa ?sb; (case sa => with_reducible assumption); (case sb => tm_at "rlk")) | fail "no")
local macro_rules | `(tactic| tm_at "rsf") => `(tactic| first | with_reducible assumption | ((refine' g_sqf ?sg ?sh); (case sg => with_reducible assumption); (case sh => tm_at "rsf0")) | fail "no")
local macro_rules | `(tactic| tm_at "rsf0") => `(tactic| first | with_reducible assumption | ((refine' SqF.sm ?sa ?sb); (case sb => with_reducible assumption); (case sa => tm_at "rsf0")) | ((refine' SqF.kp ?sa ?sc ?sb); (case sb => with_reducible assumption); (case sc => tm_at "rlk"); (case sa => tm_at "rsf0")) | fail "no")
local macro_rules | `(tactic| tm_at "rsq") => `(tactic| first | with_reducible assumption | ((refine' SqF.sq ?sz); (case sz => tm_at "rsf")) | ((refine' sq_of ?sz); (case sz => tm_at "rlk")) | (refine' sm_sq ?sa ?sb; (case sa => with_reducible assumption); (case sb => tm_at "rsq")) | (refine' kp_sq ?sa ?sc ?sb; (case sa => with_reducible assumption); (case sc => tm_at "rne"); (case sb => tm_at "rsq")) | fail "no")
local macro_rules | `(tactic| tm_at "rst") => `(tactic| first | with_reducible assumption | ((refine' st_of ?sz); (case sz => tm_at "rlk")) | fail "no")
local macro_rules | `(tactic| tm_at "rat") => `(tactic| first | with_reducible assumption | exact atI_nat (j := 0) rfl | exact atI_nat (j := 1) rfl | exact atI_nat (j := 2) rfl | exact atI_nat (j := 3) rfl | exact atI_nat (j := 4) rfl | exact atI_nat (j := 5) rfl | fail "no")
local macro_rules | `(tactic| tm_at "rsz") => `(tactic| first | with_reducible assumption | exact sz_of (Nat.le_of_ble_eq_true rfl) | (apply sz_of; omega) | ((refine sz_of (Nat.le_trans (Nat.add_le_add_left (cutV_length _ _ _) _) ?_)); omega) | ((refine sz_of (Nat.le_trans (Nat.add_le_add_left (cutV_length _ _ _) _) ?_)); (simp only [List.length_cons, List.length_nil, List.length_append]); omega) | (apply sz_lt; omega) | ((apply sz_of); (simp only [List.length_cons, List.length_nil, List.length_append]); omega) | ((apply sz_lt); (simp only [List.length_cons, List.length_nil, List.length_append]); omega) | ((apply sz_of); (simp only [List.length_cons, List.length_nil, List.length_append, List.length_take, List.length_drop, List.length_map, List.length_replicate, List.length_set]); omega) | ((apply sz_lt); (simp only [List.length_cons, List.length_nil, List.length_append, List.length_take, List.length_drop, List.length_map, List.length_replicate, List.length_set]); omega) | decide | fail "no")
local macro_rules | `(tactic| tm_at "rc") => `(tactic| first | with_reducible assumption | exact .inl (.inl (by decide)) | exact .inl (.inr (by decide)) | exact .inl (.inl ⟨by omega, by omega⟩) | exact .inl (.inr ⟨by omega, by omega⟩) | fail "no")
local macro_rules | `(tactic| tm_at "rfr") => `(tactic| first | with_reducible assumption | ((refine' g_fr ?sg ?sh); (case sg => with_reducible assumption); (case sh => tm_at "rfr0")) | fail "no")
local macro_rules | `(tactic| tm_at "rfr0") => `(tactic| first | with_reducible assumption | ((refine' Same.free ?sa ?sb); (case sa => with_reducible assumption); (case sb => tm_at "rfr0")) | ((refine' kp_free ?sa ?sc ?sb); (case sa => with_reducible assumption); (case sb => tm_at "rfr0"); (case sc => tm_at "rne")) | fail "no")
local macro_rules | `(tactic| tm_at "rsm") => `(tactic| first | with_reducible assumption | exact Same.refl _ | ((refine' Same.trans ?sa ?sb); (case sb => with_reducible assumption); (case sa => tm_at "rsm")) | ((refine' sm_mut ?sa ?sc ?sb); (case sb => with_reducible assumption); (case sc => tm_at "rfr"); (case sa => tm_at "rsm")) | fail "no")
local macro_rules | `(tactic| tm_at "rkp") => `(tactic| first | with_reducible assumption | exact Kp.refl _ | ((refine' Kp.trans ?sa ?sb); (case sb => first | with_reducible assumption | exact Kp.of (by with_reducible assumption)); (case sa => tm_at "rkp")) | ((refine' kp_mut ?sa ?sc ?sb); (case sb => with_reducible assumption); (case sc => tm_at "rfr"); (case sa => tm_at "rkp")) | fail "no")
local macro_rules | `(tactic| tm_at "rs") => `(tactic| first
  | ((with_reducible refine' w_var ?h ?k); (case h => rfl))
  | with_reducible refine w_seq ?_
  | with_reducible refine w_nx ?_
  | with_reducible refine w_rt ?_
  | with_reducible refine w_c ?_
  | with_reducible refine w_op ?_
  | with_reducible refine w_un ?_
  | with_reducible refine w_rU ?_
  | with_reducible refine w_cb ?_
  | with_reducible refine w_cons ?_
  | with_reducible refine w_nil ?_
  | with_reducible refine w_asg ?_
  | with_reducible refine w_ret ?_
  | with_reducible refine w_ifs ?_
  | with_reducible refine w_call ?_
  | with_reducible refine w_callK ?_
  | with_reducible refine w_test ?_
  | with_reducible refine w_isbl ?_
  | with_reducible refine w_addI ?_
  | with_reducible refine w_I0 ?_
  | ((with_reducible refine w_andF ?h ?i (fun _ _ _ _ _ => ?_)); (case h => omega); (case i => omega))
  | with_reducible refine w_andI ?_
  | with_reducible refine w_ltI ?_
  | with_reducible refine w_leI ?_
  | with_reducible refine w_gtI ?_
  | with_reducible refine w_geI ?_
  | with_reducible refine w_eqI ?_
  | with_reducible refine w_neI ?_
  | with_reducible refine w_isN0 ?_
  | with_reducible refine w_notN0 ?_
  | ((with_reducible refine w_isNx ?h ?_); (case h => (intro e; cases e)))
  | ((with_reducible refine w_notNx ?h ?_); (case h => (intro e; cases e)))
  | with_reducible refine w_isBT ?_
  | with_reducible refine w_notBT ?_
  | with_reducible refine w_eqB ?_
  | with_reducible refine w_neB ?_
  | ((with_reducible refine w_orF ?h ?i (fun _ _ _ _ => ?_)); (case h => omega); (case i => omega))
  | with_reducible refine w_eqS ?_
  | with_reducible refine w_neS ?_
  | with_reducible refine w_max ?_
  | with_reducible refine w_min ?_
  | with_reducible refine w_intI ?_
  | with_reducible refine w_lst ?_
  | with_reducible refine w_tup ?_
  | with_reducible refine w_ifT ?_
  | with_reducible refine w_ifNT ?_
  | with_reducible refine w_ifNF ?_
  | with_reducible refine w_ifF ?_
  | with_reducible refine w_or ?_
  | with_reducible refine w_and ?_
  | with_reducible refine w_not ?_
  | with_reducible refine w_ife ?_
  | with_reducible refine w_andV ?_
  | with_reducible refine w_orV ?_
  | with_reducible refine w_notV ?_
  | with_reducible refine w_B ?_
  | with_reducible refine w_next ?_
  | with_reducible refine w_drop ?_
  | with_reducible refine w_par ?_
  | with_reducible refine w_parE ?_
  | with_reducible refine w_par3 ?_
  | with_reducible refine w_par3E ?_
  | with_reducible refine w_asgG ?_
  | with_reducible refine w_gsub ?_
  | with_reducible refine w_bm ?_
  | with_reducible refine w_sl ?_
  | with_reducible refine w_po0 ?_
  | with_reducible refine w_po1 ?_
  | with_reducible refine w_poE ?_
  | with_reducible refine w_for ?_
  | with_reducible refine w_iR1 ?_
  | with_reducible refine w_iR2 ?_
  | with_reducible refine w_iL ?_
  | with_reducible refine w_iT ?_
  | with_reducible refine w_sp ?_
  | ((with_reducible refine' w_aug ?h ?k); (case h => rfl))
  | with_reducible refine w_wt ?_
  | with_reducible refine w_shr1 ?_
  | with_reducible refine w_iaddI ?_
  | with_reducible refine w_xorI ?_
  | with_reducible refine w_isiIb ?_
  | with_reducible refine w_isiIi ?_
  | with_reducible refine w_isiBb ?_
  | with_reducible refine w_isiSs ?_
  | with_reducible refine w_gname ?_
  | with_reducible refine w_gnil ?_
  | with_reducible refine w_gcons ?_
  | ((with_reducible refine' w_gtup ?h ?l ?k); (case h => tm_at "rst"); (case l => rfl))
  | ((with_reducible refine w_imulI ?h ?_); (case h => tm_at "rc"))
  | ((with_reducible refine w_shl1F ?h ?i (fun _ _ _ _ _ _ => ?_)); (case h => omega); (case i => omega))
  | with_reducible refine w_bits ?_
  | with_reducible refine w_bitsE (fun _ _ _ => ?_)
  | ((with_reducible refine w_shlI ?h ?_); (case h => first | assumption | exact ⟨by decide, by decide⟩))
  | ((with_reducible refine w_modI ?h ?_); (case h => decide))
  | ((with_reducible refine w_modF ?h (fun _ _ _ _ _ => ?_)); (case h => omega))
  | ((with_reducible refine w_divI ?h ?_); (case h => (first | assumption | exact ⟨by decide, by decide +kernel⟩ | exact ⟨by assumption, by assumption⟩)))
  | ((with_reducible refine w_mulI ?h ?_); (case h => tm_at "rc"))
  | ((with_reducible refine w_powI ?h ?_); (case h => exact ⟨by decide, by decide, by decide +kernel⟩))
  | ((with_reducible refine w_shrI ?h ?_); (case h => (first | decide | omega)))
  | ((with_reducible refine w_intY ?h ?_); (case h => decide +kernel))
  | ((with_reducible refine w_intZ ?h ?_); (case h => decide +kernel))
  | with_reducible refine w_intD (fun _ => ?_) (fun _ => ?_)
  | with_reducible refine w_intDn (fun _ => ?_) (fun _ => ?_)
  | with_reducible refine w_intB (fun _ => ?_) (fun _ => ?_)
  | ((with_reducible refine' w_lenL ?h ?k); (case h => tm_at "rsq"))
  | ((with_reducible refine' w_lenT ?h ?k); (case h => tm_at "rst"))
  | ((with_reducible refine' w_ixL ?h ?a ?k); (case h => tm_at "rsq"); (case a => tm_at "rat"))
  | ((with_reducible refine' w_ixT ?h ?a ?k); (case h => tm_at "rst"); (case a => tm_at "rat"))
  | ((with_reducible refine w_newL ?h (fun _ _ _ _ _ => ?_)); (case h => exact sz_of (Nat.le_of_ble_eq_true rfl)))
  | ((with_reducible refine w_newT ?h (fun _ _ _ _ _ => ?_)); (case h => exact sz_of (Nat.le_of_ble_eq_true rfl)))
  | ((with_reducible refine' w_ix2I ?h ?a ?b (fun _ _ => ?k)); (case h => tm_at "rsq"); (case a => omega); (case b => omega))
  | ((with_reducible refine' w_ix3I ?h ?a ?b (fun _ _ => ?k)); (case h => tm_at "rsq"); (case a => omega); (case b => omega))
  | ((with_reducible refine' w_ix4I ?h ?a ?b (fun _ _ => ?k)); (case h => tm_at "rsq"); (case a => omega); (case b => omega))
  | ((with_reducible refine' w_ix5I ?h ?a ?b (fun _ _ => ?k)); (case h => tm_at "rsq"); (case a => omega); (case b => omega))
  | ((with_reducible refine' w_ix6I ?h ?a ?b (fun _ _ => ?k)); (case h => tm_at "rsq"); (case a => omega); (case b => omega))
  | ((with_reducible refine' w_ix7I ?h ?a ?b (fun _ _ => ?k)); (case h => tm_at "rsq"); (case a => omega); (case b => omega))
  | ((with_reducible refine' w_ix8I ?h ?a ?b (fun _ _ => ?k)); (case h => tm_at "rsq"); (case a => omega); (case b => omega))
  | ((with_reducible refine' w_sum ?h ?k); (case h => tm_at "rsq"))
  | ((with_reducible refine' w_all ?h ?k); (case h => tm_at "rsq"))
  | with_reducible refine w_lc ?_
  | with_reducible refine w_yes ?_
  | ((with_reducible refine w_lcGo ?h ?_); (case h => rfl))
  | ((with_reducible refine' w_lcEnd ?h ?z (fun _ _ _ => ?k)); (case h => tm_at "rlk"); (case z => tm_at "rsz"))
  | ((with_reducible refine w_ifY ?h ?_); (case h => decide +kernel))
  | ((with_reducible refine w_ifZ ?h ?_); (case h => decide +kernel))
  | ((with_reducible refine w_ifnY ?h ?_); (case h => decide +kernel))
  | ((with_reducible refine w_ifnZ ?h ?_); (case h => decide +kernel))
  | with_reducible refine w_if (fun _ => ?_) (fun _ => ?_)
  | with_reducible refine w_ifn (fun _ => ?_) (fun _ => ?_)
  | with_reducible refine w_ifnn (fun _ => ?_) (fun _ => ?_)
  | ((with_reducible refine' w_setL ?h ?e (fun _ _ _ => ?k)); (case h => tm_at "rlk"); (case e => rfl))
  | ((with_reducible refine' w_bmL ?h ?k); (case h => tm_at "rlk"))
  | ((with_reducible refine' w_app ?h ?z (fun _ _ _ => ?k)); (case h => tm_at "rlk"); (case z => tm_at "rsz"))
  | ((with_reducible refine' w_slL ?h (fun _ _ _ _ _ => ?k)); (case h => tm_at "rsq"))
  | ((with_reducible refine' w_slT ?h (fun _ _ _ _ => ?k)); (case h => tm_at "rlk"))
  | ((with_reducible refine' w_addL ?h ?i ?z (fun _ _ _ _ _ => ?k)); (case h => tm_at "rlk"); (case i => tm_at "rlk"); (case z => tm_at "rsz"))
  | ((with_reducible refine' w_catT ?h ?i ?z (fun _ _ _ _ => ?k)); (case h => tm_at "rlk"); (case i => tm_at "rlk"); (case z => tm_at "rsz"))
  | ((with_reducible refine' w_inS2 ?h ?k); (case h => tm_at "rst"))
  | ((with_reducible refine' w_niS2 ?h ?k); (case h => tm_at "rst"))
  | ((with_reducible refine' w_isiTup ?h ?k); (case h => tm_at "rlk"))
  | ((with_reducible refine' w_clear ?h (fun _ _ _ => ?k)); (case h => tm_at "rlk"))
  | ((with_reducible refine' w_iLe ?h ?k); (case h => tm_at "rsq"))
  | ((with_reducible refine' w_iTe ?h ?k); (case h => tm_at "rst"))
  | ((with_reducible refine w_iR1e ?h ?i ?_); (case h => omega); (case i => omega))
  | ((with_reducible refine w_iR2e ?h ?_); (case h => (refine ⟨?_, ?_, ?_, ?_⟩ <;> omega)))
  | fail "no")
def topS (i : Nat) : Stmt := PySem.Challenge.pw_runsums_k05_whole_programs_written_and_r.main.body.getD i (.Pass ⟨0, 0, 0, 0⟩)
abbrev s_f_is_whole : Stmt := topS 7
theorem sc_f_is_whole : FnScope ["thing"] ["thing"] (defScope s_f_is_whole) := ⟨rfl, rfl, rfl, by decide +kernel, rfl, by decide +kernel, by decide +kernel⟩
abbrev s_f_is_formed : Stmt := topS 8
theorem sc_f_is_formed : FnScope ["row", "thing"] ["row"] (defScope s_f_is_formed) := ⟨rfl, rfl, rfl, by decide +kernel, rfl, by decide +kernel, by decide +kernel⟩
abbrev s_f_check_row : Stmt := topS 9
theorem sc_f_check_row : FnScope ["row", "boxes", "many", "at", "word", "number"] ["row", "boxes", "many", "at"] (defScope s_f_check_row) := ⟨rfl, rfl, rfl, by decide +kernel, rfl, by decide +kernel, by decide +kernel⟩
abbrev s_f_check : Stmt := topS 10
theorem sc_f_check : FnScope ["boxes", "rows", "at", "row"] ["boxes", "rows"] (defScope s_f_check) := ⟨rfl, rfl, rfl, by decide +kernel, rfl, by decide +kernel, by decide +kernel⟩
abbrev s_f_Program__init : Stmt := (clsB (topS 12)).getD 0 (.Pass ⟨0, 0, 0, 0⟩)
theorem sc_f_Program__init : FnScope ["self", "boxes", "rows"] ["self", "boxes", "rows"] (defScope s_f_Program__init) := ⟨rfl, rfl, rfl, by decide +kernel, rfl, by decide +kernel, by decide +kernel⟩
abbrev s_f_law_text : Stmt := topS 28
theorem sc_f_law_text : FnScope ["boxes", "rows", "found", "row", "thing"] ["boxes", "rows"] (defScope s_f_law_text) := ⟨rfl, rfl, rfl, by decide +kernel, rfl, by decide +kernel, by decide +kernel⟩
abbrev s_f_law_take : Stmt := topS 22
theorem sc_f_law_take : FnScope ["box", "wide", "digit", "one"] ["box", "wide"] (defScope s_f_law_take) := ⟨rfl, rfl, rfl, by decide +kernel, rfl, by decide +kernel, by decide +kernel⟩
abbrev s_f_law_piece : Stmt := topS 25
theorem sc_f_law_piece : FnScope ["box", "boxes", "at", "form", "j", "some", "k", "body"] ["box", "boxes", "at"] (defScope s_f_law_piece) := ⟨rfl, rfl, rfl, by decide +kernel, rfl, by decide +kernel, by decide +kernel⟩
abbrev s_f_law_ending_rows : Stmt := topS 26
theorem sc_f_law_ending_rows : FnScope ["box", "boxes", "rows", "turn", "more"] ["box", "boxes"] (defScope s_f_law_ending_rows) := ⟨rfl, rfl, rfl, by decide +kernel, rfl, by decide +kernel, by decide +kernel⟩
abbrev s_f_law_row : Stmt := topS 23
theorem sc_f_law_row : FnScope ["box", "boxes", "many", "word"] ["box", "boxes", "many"] (defScope s_f_law_row) := ⟨rfl, rfl, rfl, by decide +kernel, rfl, by decide +kernel, by decide +kernel⟩
abbrev s_f_law_any_rows : Stmt := topS 24
theorem sc_f_law_any_rows : FnScope ["box", "boxes", "many", "rows", "k"] ["box", "boxes"] (defScope s_f_law_any_rows) := ⟨rfl, rfl, rfl, by decide +kernel, rfl, by decide +kernel, by decide +kernel⟩
abbrev s_f_law_some_program : Stmt := topS 27
theorem sc_f_law_some_program : FnScope ["box", "boxes"] ["box"] (defScope s_f_law_some_program) := ⟨rfl, rfl, rfl, by decide +kernel, rfl, by decide +kernel, by decide +kernel⟩
abbrev s_f_number_in : Stmt := topS 15
theorem sc_f_number_in : FnScope ["word", "most"] ["word", "most"] (defScope s_f_number_in) := ⟨rfl, rfl, rfl, by decide +kernel, rfl, by decide +kernel, by decide +kernel⟩
abbrev s_f_boxes_in : Stmt := topS 18
theorem sc_f_boxes_in : FnScope ["line", "words"] ["line"] (defScope s_f_boxes_in) := ⟨rfl, rfl, rfl, by decide +kernel, rfl, by decide +kernel, by decide +kernel⟩
abbrev s_f_row_in : Stmt := topS 17
theorem sc_f_row_in : FnScope ["line", "words", "numbers", "word"] ["line"] (defScope s_f_row_in) := ⟨rfl, rfl, rfl, by decide +kernel, rfl, by decide +kernel, by decide +kernel⟩
abbrev s_f_read_program : Stmt := topS 19
theorem sc_f_read_program : FnScope ["text", "lines", "boxes", "rows", "at", "line", "row"] ["text"] (defScope s_f_read_program) := ⟨rfl, rfl, rfl, by decide +kernel, rfl, by decide +kernel, by decide +kernel⟩
abbrev s_f_law_box : Stmt := topS 21
theorem sc_f_law_box : FnScope ["script", "k", "cell", "seed"] ["script", "k"] (defScope s_f_law_box) := ⟨rfl, rfl, rfl, by decide +kernel, rfl, by decide +kernel, by decide +kernel⟩
abbrev s_f_lines_of : Stmt := topS 11
theorem sc_f_lines_of : FnScope ["program", "lines", "row", "thing"] ["program"] (defScope s_f_lines_of) := ⟨rfl, rfl, rfl, by decide +kernel, rfl, by decide +kernel, by decide +kernel⟩
abbrev s_f_show_program : Stmt := topS 16
theorem sc_f_show_program : FnScope ["program"] ["program"] (defScope s_f_show_program) := ⟨rfl, rfl, rfl, by decide +kernel, rfl, by decide +kernel, by decide +kernel⟩
abbrev s_f_law_whole : Stmt := topS 29
theorem sc_f_law_whole : FnScope ["rows", "row", "thing"] ["rows"] (defScope s_f_law_whole) := ⟨rfl, rfl, rfl, by decide +kernel, rfl, by decide +kernel, by decide +kernel⟩
abbrev s_f_Program__eq : Stmt := (clsB (topS 12)).getD 1 (.Pass ⟨0, 0, 0, 0⟩)
theorem sc_f_Program__eq : FnScope ["self", "other"] ["self", "other"] (defScope s_f_Program__eq) := ⟨rfl, rfl, rfl, by decide +kernel, rfl, by decide +kernel, by decide +kernel⟩
abbrev s_f_Program__str : Stmt := (clsB (topS 12)).getD 3 (.Pass ⟨0, 0, 0, 0⟩)
theorem sc_f_Program__str : FnScope ["self"] ["self"] (defScope s_f_Program__str) := ⟨rfl, rfl, rfl, by decide +kernel, rfl, by decide +kernel, by decide +kernel⟩
abbrev s_f_law : Stmt := topS 30
theorem sc_f_law : FnScope ["script", "made", "k", "boxes", "rows", "one", "due", "told"] ["script"] (defScope s_f_law) := ⟨rfl, rfl, rfl, by decide +kernel, rfl, by decide +kernel, by decide +kernel⟩
def gg_f_read_program_text {α : Type} : List α → List α → List α
  | [], [b0] => [b0]
  | _, _ => []
def gk_f_read_program_text : List V → List V → List V := gg_f_read_program_text
theorem rel_gg_f_read_program_text {vs : List V} {us : List Value} {zs : List V} {ws : List Value} (r1 : Vals vs us) (r2 : Vals zs ws) : Vals (gg_f_read_program_text vs zs) (gg_f_read_program_text us ws) := by
  rcases r1 with _ | ⟨p0, _⟩ <;> rcases r2 with _ | ⟨q0, _ | ⟨q1, _⟩⟩ <;> (first | exact Paired.nil | (repeat' (first | exact Paired.nil | assumption | refine Paired.cons ?_ ?_)))
theorem cgk_f_read_program_text {b0 : V} {sp : Sp} {H : Hp} {Q : VK} {E : XK} (k : sp [b0] H Q E) : sp (gk_f_read_program_text [] [b0]) H Q E := k
local macro_rules | `(tactic| tm_at "rs") => `(tactic| with_reducible refine cgk_f_read_program_text ?_)
theorem kb_f_read_program_text {K : PySem.W.Frag} {f : Addr} {fd : FuncData} (F : Fun K "read_program" "read_program" s_f_read_program f fd) : KBinds K fd ["text"] ["text"] gg_f_read_program_text gk_f_read_program_text := by
  obtain ⟨oc, od, kV, doc, pm, an, cdv, ct, osl, rfl, lk, hcd⟩ := F.ex
  exact ⟨fun s us ws _ hl => match us, ws, hl with | [], [b0], _ => .of_eq rfl, fun r1 r2 => rel_gg_f_read_program_text r1 r2⟩
def gg_f_show_program_program {α : Type} : List α → List α → List α
  | [], [b0] => [b0]
  | _, _ => []
def gk_f_show_program_program : List V → List V → List V := gg_f_show_program_program
theorem rel_gg_f_show_program_program {vs : List V} {us : List Value} {zs : List V} {ws : List Value} (r1 : Vals vs us) (r2 : Vals zs ws) : Vals (gg_f_show_program_program vs zs) (gg_f_show_program_program us ws) := by
  rcases r1 with _ | ⟨p0, _⟩ <;> rcases r2 with _ | ⟨q0, _ | ⟨q1, _⟩⟩ <;> (first | exact Paired.nil | (repeat' (first | exact Paired.nil | assumption | refine Paired.cons ?_ ?_)))
theorem cgk_f_show_program_program {b0 : V} {sp : Sp} {H : Hp} {Q : VK} {E : XK} (k : sp [b0] H Q E) : sp (gk_f_show_program_program [] [b0]) H Q E := k
local macro_rules | `(tactic| tm_at "rs") => `(tactic| with_reducible refine cgk_f_show_program_program ?_)
theorem kb_f_show_program_program {K : PySem.W.Frag} {f : Addr} {fd : FuncData} (F : Fun K "show_program" "show_program" s_f_show_program f fd) : KBinds K fd ["program"] ["program"] gg_f_show_program_program gk_f_show_program_program := by
  obtain ⟨oc, od, kV, doc, pm, an, cdv, ct, osl, rfl, lk, hcd⟩ := F.ex
  exact ⟨fun s us ws _ hl => match us, ws, hl with | [], [b0], _ => .of_eq rfl, fun r1 r2 => rel_gg_f_show_program_program r1 r2⟩
/-! a box of draws -/
def BoxAt (H : Hp) (b : Addr) : Prop := ∃ x s : Int, H b = some (.lst [.int x, .int s]) ∧ 0 ≤ x ∧ 0 ≤ s ∧ s ≤ 2147483629
theorem BoxAt.sm {H H' : Hp} {b : Addr} (h : BoxAt H b) (e : Sm H H') : BoxAt H' b := by
  obtain ⟨x, s, h, r⟩ := h
  exact ⟨x, s, e _ _ h, r⟩
theorem BoxAt.kp {H H' : Hp} {b c : Addr} (h : BoxAt H b) (n : b ≠ c) (e : Kp c H H') : BoxAt H' b := by
  obtain ⟨x, s, h, r⟩ := h
  exact ⟨x, s, e _ _ n h, r⟩
theorem BoxAt.lst {H : Hp} {b : Addr} (h : BoxAt H b) : ∃ xs, H b = some (.lst xs) := by
  obtain ⟨x, s, h, r⟩ := h
  exact ⟨_, h⟩
def Wd (w : Int) : Prop := 0 < w ∧ w.natAbs.log2 < 9000
theorem wd_of {w : Int} (h0 : 0 < w) (h : w ≤ 10 ^ 60) : Wd w := by
  refine ⟨h0, ?_⟩
  have h1 : w.natAbs ≠ 0 := by omega
  rw [Nat.log2_lt h1]
  have h2 : w.natAbs ≤ 10 ^ 60 := by omega
  exact Nat.lt_of_le_of_lt h2 (by decide +kernel)
theorem wd_pow {w : Int} {k : Nat} (h0 : 0 < w) (h : w ≤ 2 ^ k) (hk : k < 9000) : Wd w := by
  refine ⟨h0, ?_⟩
  have h1 : w.natAbs ≠ 0 := by omega
  rw [Nat.log2_lt h1]
  have h2 : (w.natAbs : Int) ≤ ((2 ^ k : Nat) : Int) := by
    rw [Int.natCast_pow]
    have e : ((w.natAbs : Nat) : Int) = w := by omega
    rw [e]; exact h
  have h3 : w.natAbs ≤ 2 ^ k := Int.ofNat_le.mp h2
  exact Nat.lt_of_le_of_lt h3 (Nat.pow_lt_pow_right (by decide) hk)
/-- 10 to the power of 800 -/
def N800 : Int := 10 ^ 800
theorem n800_pos : 10 ^ 60 < N800 := by decide +kernel
theorem n800_le : N800 < 2 ^ 2660 := by decide +kernel
theorem n800_eq : N800 = 10 ^ 800 := rfl
theorem wd_800 {w : Int} (h0 : 0 < w) (h : w ≤ N800 + 10) : Wd w := wd_pow (k := 2661) h0 (by
  have h1 := n800_le
  have h2 : (2 : Int) ^ 2660 + 10 ≤ 2 ^ 2661 := by decide +kernel
  exact Int.le_trans (Int.le_trans h (Int.le_of_lt (Int.add_lt_add_right h1 10))) h2) (by decide)
theorem wd_two {z j : Int} (e : z = 2 ^ j.toNat) (l : j < 9000) : Wd z := by
  have h1 : (1 : Int) ≤ 2 ^ j.toNat := by
    have := Nat.two_pow_pos j.toNat
    have h2 : (2 : Int) ^ j.toNat = ((2 ^ j.toNat : Nat) : Int) := by rw [Int.natCast_pow]; rfl
    omega
  exact wd_pow (k := j.toNat) (by omega) (by omega) (by omega)

theorem ne_newB {H : Hp} {p b : Addr} (hp : H p = none) (hb : BoxAt H b) : p ≠ b := by
  obtain ⟨x, s, h, _⟩ := hb
  exact ne_new hp h
theorem ne_newB2 {H : Hp} {p b : Addr} (hp : H p = none) (hb : BoxAt H b) : b ≠ p := (ne_newB hp hb).symm
theorem g_bx {H H0 : Hp} {b : Addr} (_ : BoxAt H0 b) (h : BoxAt H b) : BoxAt H b := h
local macro_rules | `(tactic| tm_at "rbx") => `(tactic| first | with_reducible assumption | ((refine' g_bx ?sg ?sh); (case sg => with_reducible assumption); (case sh => tm_at "rbx0")) | fail "no")
local macro_rules | `(tactic| tm_at "rbx0") => `(tactic| first | with_reducible assumption | ((refine' BoxAt.sm ?sa ?sb); (case sb => with_reducible assumption); (case sa => tm_at "rbx0")) | ((refine' BoxAt.kp ?sa ?sc ?sb); (case sb => with_reducible assumption); (case sc => tm_at "rne"); (case sa => tm_at "rbx0")) | fail "no")
local macro_rules | `(tactic| tm_at "rne") => `(tactic| first | ((refine' ne_newB ?sa ?sb); (case sa => with_reducible assumption); (case sb => tm_at "rbx")) | ((refine' ne_newB2 ?sa ?sb); (case sa => with_reducible assumption); (case sb => tm_at "rbx")) | fail "no")
theorem AllT.kpB {P : List V → Prop} {xs : List V} {H H' : Hp} {b : Addr} (h : AllT P xs H) (hb : BoxAt H b) (e : Kp b H H') : AllT P xs H' := by
  obtain ⟨x, s, hb, _⟩ := hb
  exact h.kp hb e
local macro_rules | `(tactic| tm_at "rall") => `(tactic| first | with_reducible assumption | exact AllT.nil | ((refine' AllT.add ?sa ?sb ?sp); (case sa => tm_at "rall"); (case sb => tm_at "rlk"); (case sp => with_reducible assumption)) | ((refine' AllT.add ?sa ?sb ?sp); (case sa => tm_at "rall"); (case sb => tm_at "rlk")) | ((refine' AllT.app ?sa ?sb); (case sa => tm_at "rall"); (case sb => tm_at "rall")) | ((refine' AllT.cut ?sa); (case sa => tm_at "rall")) | ((refine' AllT.sm ?sa ?sb); (case sb => with_reducible assumption); (case sa => tm_at "rall")) | ((refine' AllT.kpB ?sa ?sc ?sb); (case sb => with_reducible assumption); (case sc => tm_at "rbx"); (case sa => tm_at "rall")) | ((refine' AllT.kp ?sa ?sc ?sb); (case sb => with_reducible assumption); (case sc => tm_at "rlk"); (case sa => tm_at "rall")) | fail "no")
theorem SqF.kpB {K : PySem.W.Frag} {xs : List V} {a : Addr} {H H' : Hp} {b : Addr} (h : SqF K H a xs) (hb : BoxAt H b) (e : Kp b H H') : SqF K H' a xs := by
  obtain ⟨x, s, hb, _⟩ := hb
  exact h.kp hb e
local macro_rules | `(tactic| tm_at "rsf0") => `(tactic| ((refine' SqF.kpB ?sa ?sc ?sb); (case sb => with_reducible assumption); (case sc => tm_at "rbx"); (case sa => tm_at "rsf0")))
local macro_rules | `(tactic| tm_at "rz") => `(tactic| first | with_reducible assumption | tm_at "rfr" | tm_at "rkp" | tm_at "rsm" | tm_at "rbx" | tm_at "rsf" | tm_at "rlk" | tm_at "rsq" | tm_at "rne" | omega | fail "no")

/-! tuples stay as they are -/
def Tk (H H' : Hp) : Prop := ∀ p xs, H p = some (.tup xs) → H' p = some (.tup xs)
theorem Tk.refl (H : Hp) : Tk H H := fun _ _ h => h
theorem Tk.trans {H H1 H2 : Hp} (a : Tk H H1) (b : Tk H1 H2) : Tk H H2 := fun p xs h => b p xs (a p xs h)
theorem Tk.sm {H H' : Hp} (e : Sm H H') : Tk H H' := fun _ _ h => e _ _ h
theorem Tk.kp {H H' : Hp} {b : Addr} {ys : List V} (hb : H b = some (.lst ys)) (e : Kp b H H') : Tk H H' := fun p xs q => e _ _ (by
  intro z
  rw [z, hb] at q
  cases q) q
theorem Tk.kd {H H' : Hp} {b : Addr} {ys : List (Key × V)} (hb : H b = some (.dK ys)) (e : Kp b H H') : Tk H H' := fun p xs q => e _ _ (by
  intro z
  rw [z, hb] at q
  cases q) q
theorem Tk.ki {H H' : Hp} {b C dx : Addr} {ys : List (Str × V)} (hb : H b = some (.ins C dx ys)) (e : Kp b H H') : Tk H H' := fun p xs q => e _ _ (by
  intro z
  rw [z, hb] at q
  cases q) q
theorem Tk.kb {H H' : Hp} {b : Addr} (hb : BoxAt H b) (e : Kp b H H') : Tk H H' := by
  obtain ⟨x, s, hb, _⟩ := hb
  exact Tk.kp hb e
theorem Tk.kn {H H' : Hp} {b : Addr} (hb : H b = none) (e : Kp b H H') : Tk H H' := fun p xs q => e _ _ (ne_of_none q hb) q
local macro_rules | `(tactic| tm_at "rtk") => `(tactic| first | with_reducible assumption | exact Tk.refl _ | tm_at "rtk1" | ((refine' Tk.trans ?sa ?sb); (case sb => tm_at "rtk1"); (case sa => tm_at "rtk")) | fail "no")
local macro_rules | `(tactic| tm_at "rtk1") => `(tactic| first | exact Tk.sm (by with_reducible assumption) | ((refine' Tk.kb ?sa ?sb); (case sb => with_reducible assumption); (case sa => tm_at "rbx")) | ((refine' Tk.kp ?sa ?sb); (case sb => with_reducible assumption); (case sa => tm_at "rlk")) | ((refine' Tk.kd ?sa ?sb); (case sb => with_reducible assumption); (case sa => tm_at "rlk")) | ((refine' Tk.ki ?sa ?sb); (case sb => with_reducible assumption); (case sa => tm_at "rlk")) | ((refine' Tk.kn ?sa ?sb); (case sb => with_reducible assumption); (case sa => tm_at "rfr")) | with_reducible assumption | fail "no")
theorem g_tk {H H0 H1 : Hp} (_ : Tk H0 H1) (h : Tk H H1) : Tk H H1 := h
/-- a tuple, told ahead -/
theorem tk_lk {H H' : Hp} {p : Addr} {xs : List V} (h : H p = some (.tup xs)) (e : Tk H H') : H' p = some (.tup xs) := e _ _ h
local macro_rules | `(tactic| tm_at "rlk0") => `(tactic| first | ((refine' tk_lk ?sb ?sa); (case sa => with_reducible assumption); (case sb => tm_at "rlk0")) | fail "no")
/-! what stands in nested tuples -/
mutual
def TpD (H : Hp) : PyData → V → Prop
  | .tuple ds, v => ∃ p xs, v = .ref p ∧ H p = some (.tup xs) ∧ TpL H ds xs
  | .int i, v => v = .int i
  | .str s, v => v = .str s
  | .bool b, v => v = .bl b
  | .none, v => v = .non
  | .list _, _ => False
  | .dict _, _ => False
def TpL (H : Hp) : List PyData → List V → Prop
  | [], xs => xs = []
  | d :: ds, xs => ∃ v vs, xs = v :: vs ∧ TpD H d v ∧ TpL H ds vs
end
mutual
theorem TpD.tk {H H' : Hp} (e : Tk H H') : ∀ (d : PyData) (v : V), TpD H d v → TpD H' d v
  | .tuple ds, v, h => by
    unfold TpD at h ⊢
    obtain ⟨p, xs, rfl, q, r⟩ := h
    exact ⟨p, xs, rfl, e _ _ q, TpL.tk e ds xs r⟩
  | .int i, v, h => by unfold TpD at h ⊢; exact h
  | .str s, v, h => by unfold TpD at h ⊢; exact h
  | .bool b, v, h => by unfold TpD at h ⊢; exact h
  | .none, v, h => by unfold TpD at h ⊢; exact h
  | .list _, v, h => by unfold TpD at h; exact h.elim
  | .dict _, v, h => by unfold TpD at h; exact h.elim
theorem TpL.tk {H H' : Hp} (e : Tk H H') : ∀ (ds : List PyData) (xs : List V), TpL H ds xs → TpL H' ds xs
  | [], xs, h => by unfold TpL at h ⊢; exact h
  | d :: ds, xs, h => by
    unfold TpL at h ⊢
    obtain ⟨v, vs, rfl, q, r⟩ := h
    exact ⟨v, vs, rfl, TpD.tk e d v q, TpL.tk e ds vs r⟩
end
mutual
theorem TpD.dp {K : PySem.W.Frag} {H : Hp} : ∀ (d : PyData) (v : V), TpD H d v → Dp K H v d
  | .tuple ds, v, h => by
    unfold TpD at h
    obtain ⟨p, xs, rfl, q, r⟩ := h
    exact .tup (st_of q) (TpL.dp ds xs r)
  | .int i, v, h => by unfold TpD at h; subst h; exact .int _
  | .str s, v, h => by unfold TpD at h; subst h; exact .str _
  | .bool b, v, h => by unfold TpD at h; subst h; exact .bl _
  | .none, v, h => by unfold TpD at h; subst h; exact .non
  | .list _, v, h => by unfold TpD at h; exact h.elim
  | .dict _, v, h => by unfold TpD at h; exact h.elim
theorem TpL.dp {K : PySem.W.Frag} {H : Hp} : ∀ (ds : List PyData) (xs : List V), TpL H ds xs → DpAll K H xs ds
  | [], xs, h => by unfold TpL at h; subst h; exact .nil
  | d :: ds, xs, h => by
    unfold TpL at h
    obtain ⟨v, vs, rfl, q, r⟩ := h
    exact .cons (TpD.dp d v q) (TpL.dp ds vs r)
end
theorem tpd_t {H : Hp} {p : Addr} {xs : List V} {ds : List PyData} (h : H p = some (.tup xs)) (k : TpL H ds xs) : TpD H (.tuple ds) (.ref p) := by
  unfold TpD
  exact ⟨p, xs, rfl, h, k⟩
theorem tpd_i {H : Hp} {i : Int} : TpD H (.int i) (.int i) := by
  unfold TpD
  rfl
theorem tpd_s {H : Hp} {s : Str} : TpD H (.str s) (.str s) := by
  unfold TpD
  rfl
theorem tpl_nil {H : Hp} : TpL H [] [] := by
  unfold TpL
  rfl
theorem tpl_cons {H : Hp} {d : PyData} {ds : List PyData} {v : V} {vs : List V} (h : TpD H d v) (k : TpL H ds vs) : TpL H (d :: ds) (v :: vs) := by
  unfold TpL
  exact ⟨v, vs, rfl, h, k⟩
def nV (l : List Nat) : List V := l.map fun t => V.int (t : Nat)
def nD (l : List Nat) : List PyData := l.map fun t => PyData.int (t : Nat)
theorem tpl_nat {H : Hp} : ∀ l : List Nat, TpL H (nD l) (nV l)
  | [] => tpl_nil
  | x :: l => tpl_cons tpd_i (tpl_nat l)
theorem nV_snoc (l : List Nat) (x : Nat) : nV (l ++ [x]) = nV l ++ [V.int (x : Nat)] := List.map_append
theorem nV_len (l : List Nat) : (nV l).length = l.length := List.length_map _
theorem nV_app (l m : List Nat) : nV (l ++ m) = nV l ++ nV m := List.map_append
theorem nV_get {l : List Nat} {j x : Nat} (h : l[j]? = some x) : (nV l)[j]? = some (.int (x : Nat)) := by
  unfold nV
  rw [List.getElem?_map, h]
  rfl
theorem nV_take (l : List Nat) (n : Nat) : (nV l).take n = nV (l.take n) := by
  unfold nV
  rw [List.map_take]
theorem nV_drop (l : List Nat) (n : Nat) : (nV l).drop n = nV (l.drop n) := by
  unfold nV
  rw [List.map_drop]
theorem paired_last {α β : Type} {R : α → β → Prop} : ∀ {l : List α} {m : List β} {y : β}, Paired R l (m ++ [y]) → ∃ l' x, l = l' ++ [x] ∧ Paired R l' m ∧ R x y
  | _, [], _, .cons h .nil => ⟨[], _, rfl, .nil, h⟩
  | _, _ :: m, _, .cons h r => by
    obtain ⟨l', x, rfl, r1, r2⟩ := paired_last r
    exact ⟨_ :: l', x, rfl, .cons h r1, r2⟩
theorem paired_app {α β : Type} {R : α → β → Prop} : ∀ {l : List α} {m : List β} {l' : List α} {m' : List β}, Paired R l m → Paired R l' m' → Paired R (l ++ l') (m ++ m')
  | _, _, _, _, .nil, h => h
  | _, _, _, _, .cons a b, h => .cons a (paired_app b h)
theorem paired_mono {α β : Type} {F G : α → β → Prop} (h : ∀ p q, F p q → G p q) : ∀ {l : List α} {k : List β}, Paired F l k → Paired G l k
  | _, _, .nil => .nil
  | _, _, .cons a b => .cons (h _ _ a) (paired_mono h b)
theorem paired_len {α β : Type} {R : α → β → Prop} : ∀ {l : List α} {m : List β}, Paired R l m → l.length = m.length
  | _, _, .nil => rfl
  | _, _, .cons _ b => by rw [List.length_cons, List.length_cons, paired_len b]
theorem paired_get {α β : Type} {R : α → β → Prop} : ∀ {l : List α} {m : List β} {i : Nat} {x : α}, Paired R l m → l[i]? = some x → ∃ y, m[i]? = some y ∧ R x y
  | _, _, 0, _, .cons a b, h => ⟨_, rfl, by cases h; exact a⟩
  | _, _, i + 1, _, .cons a b, h => paired_get (i := i) b h
  | _, _, _, _, .nil, h => by cases h
theorem paired_getR {α β : Type} {R : α → β → Prop} : ∀ {l : List α} {m : List β} {i : Nat} {y : β}, Paired R l m → m[i]? = some y → ∃ x, l[i]? = some x ∧ R x y
  | _, _, 0, _, .cons a b, h => ⟨_, rfl, by cases h; exact a⟩
  | _, _, i + 1, _, .cons a b, h => paired_getR (i := i) b h
  | _, _, _, _, .nil, h => by cases h
theorem paired_rep {α β : Type} {R : α → β → Prop} {x : α} {y : β} (h : R x y) : ∀ n : Nat, Paired R (List.replicate n x) (List.replicate n y)
  | 0 => .nil
  | n + 1 => .cons h (paired_rep h n)
theorem w_rep1V {H : Hp} {Q : VK} {l : Addr} {v : V} {j : Int} (h : H l = some (.lst [v])) (h0 : 0 ≤ j) (h1 : j ≤ 1000) (k : ∀ p H', H p = none → Sm H H' → H' p = some (.lst (List.replicate j.toNat v)) → Q (.ref p) H') : gMul (.ref l) (.int j) H Q := by
  refine .inr (.inr ⟨l, j, _, rfl, rfl, h, by omega, by omega, sz_of ?_, fun p hp => k p _ hp (sm_new hp) ?_⟩)
  · show 1 * j.toNat ≤ _
    omega
  · rw [upd_same, List.flatten_replicate_singleton]
/-- one of a list -/
theorem w_ixP {K : PySem.W.Frag} {H : Hp} {Q : VK} {p : Addr} {xs : List V} {i : Int} (P : V → Prop) (h : SqL K H p xs ∨ SqT K H p xs) (h0 : 0 ≤ i) (h1 : i < (xs.length : Int)) (hx : ∀ x ∈ xs, P x) (k : ∀ x, P x → Q x H) : rIx K (.ref p) (.int i) H Q := by
  obtain ⟨j, rfl⟩ := Int.eq_ofNat_of_zero_le h0
  have hj : j < xs.length := by omega
  have e := List.getElem?_eq_getElem hj
  rcases h with h | h
  · exact w_ixL' h (atI_nat e) (k _ (hx _ (List.getElem_mem hj)))
  · exact w_ixT h (atI_nat e) (k _ (hx _ (List.getElem_mem hj)))
theorem w_ixN {K : PySem.W.Frag} {H : Hp} {Q : VK} {p : Addr} {xs : List Nat} {i : Int} (h : SqL K H p (nV xs) ∨ SqT K H p (nV xs)) (h0 : 0 ≤ i) (h1 : i < (xs.length : Int)) (k : ∀ x ∈ xs, Q (.int (x : Nat)) H) : rIx K (.ref p) (.int i) H Q :=
  w_ixP (fun v => ∃ x ∈ xs, v = .int (x : Nat)) h h0 (by rw [nV_len]; exact h1) (fun v hv => by
    obtain ⟨x, hx, e⟩ := List.mem_map.mp hv
    exact ⟨x, hx, e.symm⟩) (fun v hv => by
    obtain ⟨x, hx, rfl⟩ := hv
    exact k x hx)
theorem all2 {P : V → Prop} {x y : V} (hx : P x) (hy : P y) : ∀ z ∈ [x, y], P z := fun z hz => by
  rcases List.mem_cons.mp hz with rfl | hz
  · exact hx
  · rw [List.mem_singleton.mp hz]
    exact hy
theorem all3 {P : V → Prop} {x y u : V} (hx : P x) (hy : P y) (hu : P u) : ∀ z ∈ [x, y, u], P z := fun z hz => by
  rcases List.mem_cons.mp hz with rfl | hz
  · exact hx
  · exact all2 hy hu z hz
/-! a tuple that stands, or one of the module's own -/
def TpK (K : PySem.W.Frag) (H : Hp) (p : Addr) (xs : List V) : Prop := H p = some (.tup xs) ∨ ∀ H' : Hp, SqT K H' p xs
theorem TpK.imp {K : PySem.W.Frag} {H H' : Hp} {p : Addr} {xs : List V} (h : TpK K H p xs) (e : Tk H H') : TpK K H' p xs := h.elim (fun h => .inl (e _ _ h)) .inr
theorem TpK.sq {K : PySem.W.Frag} {H : Hp} {p : Addr} {xs : List V} (h : TpK K H p xs) : SqT K H p xs := h.elim st_of fun h => h H
theorem TpK.of {K : PySem.W.Frag} {H : Hp} {p : Addr} {xs : List V} (h : H p = some (.tup xs)) : TpK K H p xs := .inl h
local macro_rules | `(tactic| tm_at "rtp") => `(tactic| first | with_reducible assumption | exact TpK.of (by with_reducible assumption) | ((refine' TpK.imp ?sa ?sb); (case sa => with_reducible assumption); (case sb => tm_at "rtk")) | fail "no")
local macro_rules | `(tactic| tm_at "rst") => `(tactic| first | with_reducible assumption | ((refine' st_of ?sz); (case sz => tm_at "rlk")) | ((refine' TpK.sq ?sz); (case sz => tm_at "rtp")) | fail "no")

/-! zip(t, u, strict=True) over two tuples of one length -/
theorem typeCall_zipS (a b c : Value) : checkTypeCall "zip" ⟨[a, b], [(Str.ofString "strict", c)]⟩ = pure () := by kernel_rfl
theorem newCall_zipS (a b c : Value) : checkBuiltinCall "zip.__new__" ⟨[.type "zip", a, b], [(Str.ofString "strict", c)]⟩ = pure () := by kernel_rfl
theorem argsInit_zipS (obj a b c : Value) : argsOk "object.__init__" ⟨[obj, a, b], [(Str.ofString "strict", c)]⟩ := by unfold argsOk; kernel_rfl
abbrev ZiS (h : Heap) (z TI TO : Addr) (f0 : Value) : Prop := h.get? z = some { cls := .type "zip", dict := none, data := .fields #[f0, .bool false, .bool true, .ref TI, .ref TO], slots := #[] }
section
variable {prog : Program} {w : World} {A : Around} {E : Value → Shared → Prop} {s : Shared}
theorem orEnd_item {it l : Addr} {i : Nat} {items : Array Value} {x : Value} {Q : Option Value → Shared → Prop} (hit : s.heap.IsTupleIter it l i) (hl : s.heap.IsTuple l items) (hx : items[i]? = some x)
    (hQ : ∀ h', h'.IsTupleIter it l (i + 1) → Heap.SameBut it s.heap h' → Q (some x) { s with heap := h' }) : wpAny (model prog w) A (Builtin.SmallTypes.nextOrEnd (.ref it)) Q E s := by
  unfold Builtin.SmallTypes.nextOrEnd
  exact PySem.wpAny_bind (wpAny_attempt (_root_.RZ.nextOf_tuple_item hit hl hx fun h' a b => wpAny_pure (hQ h' a b)))
theorem orEnd_end {it l : Addr} {i : Nat} {items : Array Value} {Q : Option Value → Shared → Prop} (hh : A.handled = none) (hit : s.heap.IsTupleIter it l i) (hl : s.heap.IsTuple l items) (hx : items[i]? = none)
    (hQ : ∀ h', Heap.ExtBut it s.heap h' → Q none { s with heap := h' }) : wpAny (model prog w) A (Builtin.SmallTypes.nextOrEnd (.ref it)) Q E s := by
  unfold Builtin.SmallTypes.nextOrEnd
  refine PySem.wpAny_bind (wpAny_attempt (_root_.RZ.nextOf_tuple_end hh hit hl hx fun h' e hk he => ?_))
  obtain ⟨o, ho, hc⟩ := he
  refine PySem.wpAny_bind (wpAny_isInstance (T := "StopIteration") (b := true) ⟨o, ho, hc⟩ isSubtype_stop ?_)
  rw [if_pos rfl]
  exact wpAny_pure (hQ h' hk)
end
section
variable {prog : Program} {w : World} {A : Around} {E : Value → Shared → Prop} {s : Shared}
theorem stop_wp {α : Type} {Q : α → Shared → Prop} (hh : A.handled = none)
    (hE : ∀ h' e, (∀ c o, s.heap.get? c = some o → h'.get? c = some o) → (∃ o, h'.get? e = some o ∧ o.cls = .type "StopIteration") → E (.ref e) { s with heap := h' }) :
    wpAny (model prog w) A (Builtin.SmallTypes.stopIteration : Sem α) Q E s := by
  unfold Builtin.SmallTypes.stopIteration
  refine PySem.wpAny_bind ?_
  simp only [newTuple, newExc]
  refine PySem.wpAny_bind (wpAny_newObj_type ?_ (by size_fits))
  refine PySem.wpAny_bind (m := firstArgMember _ _) (wpAny_of_eq (a := Value.none) (by first | rfl | (simp only [firstArgMember]; rfl)) ?_)
  refine PySem.wpAny_newObj_type ?_ (by size_fits)
  simp only [raiseNew]
  refine PySem.wpAny_bind (wpAny_handled ?_)
  rw [hh]
  refine PySem.wpAny_bind (wpAny_pure (wpAny_throw ?_))
  exact hE _ _ (fun c o q => Heap.get?_push_of_some _ (Heap.get?_push_of_some _ q)) ⟨_, Heap.get?_push_size _ rfl, rfl⟩
theorem zipS_item {z TI TO i1 i2 l1 l2 : Addr} {k1 k2 : Nat} {xs ys : Array Value} {x y a b : Value} {Q : Value → Shared → Prop} (D : ZipApart z TI TO i1 i2 l1 l2)
    (hz : ZiS s.heap z TI TO .none) (hTI : IsPair s.heap TI (.ref i1) (.ref i2)) (hTO : IsPair s.heap TO a b) (h1 : s.heap.IsTupleIter i1 l1 k1) (h2 : s.heap.IsTupleIter i2 l2 k2) (hl1 : s.heap.IsTuple l1 xs) (hl2 : s.heap.IsTuple l2 ys) (hx : xs[k1]? = some x) (hy : ys[k2]? = some y)
    (hQ : ∀ h', ZiS h' z TI TO (rawInt s.heap.objs.size) → IsPair h' TO x y → h'.IsTupleIter i1 l1 (k1 + 1) → h'.IsTupleIter i2 l2 (k2 + 1) → IsPair h' s.heap.objs.size x y → h'.objs.size = s.heap.objs.size + 1 → (∀ c o, c ≠ z → c ≠ TO → c ≠ i1 → c ≠ i2 → s.heap.get? c = some o → h'.get? c = some o) → Q (.ref s.heap.objs.size) { s with heap := h' }) :
    wpAny (model prog w) A (Builtin.«zip.__next__» ⟨[.ref z], []⟩) (fun fin s' => ∃ v, fin = .done (.ret v) ∧ Q v s') E s := by
  show wpAny _ _ (field (Value.ref z) 2 >>= _) _ _ _
  refine PySem.wpAny_bind (wpAny_field hz rfl (x := .bool true) rfl ?_)
  show wpAny _ _ (field (Value.ref z) 3 >>= _) _ _ _
  refine PySem.wpAny_bind (wpAny_field hz rfl (x := .ref TI) rfl ?_)
  refine PySem.wpAny_bind (wpAny_seqItems hTI rfl ?_)
  show wpAny _ _ (Builtin.SmallTypes.ownedTupleIsFree (Value.ref z) >>= _) _ _ _
  refine PySem.wpAny_bind ?_
  unfold Builtin.SmallTypes.ownedTupleIsFree
  refine PySem.wpAny_bind (wpAny_field hz rfl (x := .none) rfl (wpAny_pure ?_))
  simp only [if_true]
  refine PySem.wpAny_bind (wpAny_rule ?_)
  refine PySem.wpAny_bind (wpAny_field hz rfl (x := .ref TO) rfl ?_)
  refine PySem.wpAny_bind (wpAny_setField_rec hz (by simp) fun g1 z1 s1 => ?_)
  replace z1 : ZiS g1 z TI TO .ellipsis := z1
  refine PySem.wpAny_bind ?_
  simp only [List.zipIdx_nil, List.zipIdx_cons, List.forIn_nil, List.forIn_cons]
  refine PySem.wpAny_bind (PySem.wpAny_bind (wpAny_onRaise ?_))
  show wpAny _ _ (Builtin.SmallTypes.nextOrEnd (.ref i1)) _ _ _
  refine orEnd_item (h1.extBut s1.extBut D.i1z) (hl1.extBut s1.extBut D.l1z) hx fun g2 j1 s2 => ?_
  have t2 : IsPair g2 TO a b := s2.extBut _ _ D.TOi1 (s1.extBut _ _ D.TOz hTO)
  refine PySem.wpAny_bind (wpAny_seqItems t2 rfl ?_)
  refine PySem.wpAny_bind (wpAny_updateSeq_pair t2 fun g3 t3 s3 => ?_)
  replace t3 : IsPair g3 TO x b := t3
  refine PySem.wpAny_bind (wpAny_letGo (wpAny_pure ?_))
  refine PySem.wpAny_bind (PySem.wpAny_bind (wpAny_onRaise ?_))
  show wpAny _ _ (Builtin.SmallTypes.nextOrEnd (.ref i2)) _ _ _
  refine orEnd_item (((h2.extBut s1.extBut D.i2z).extBut s2.extBut D.i12.symm).extBut s3.extBut D.TOi2.symm) (((hl2.extBut s1.extBut D.l2z).extBut s2.extBut D.l2i1).extBut s3.extBut D.l2TO) hy fun g4 j2 s4 => ?_
  have t4 : IsPair g4 TO x b := s4.extBut _ _ D.TOi2 t3
  refine PySem.wpAny_bind (wpAny_seqItems t4 rfl ?_)
  refine PySem.wpAny_bind (wpAny_updateSeq_pair t4 fun g5 t5 s5 => ?_)
  replace t5 : IsPair g5 TO x y := t5
  refine PySem.wpAny_bind (wpAny_letGo (wpAny_pure (wpAny_pure ?_)))
  refine PySem.wpAny_bind (wpAny_seqItems t5 rfl ?_)
  refine PySem.wpAny_bind (wpAny_newTuple ?_)
  have hsz : g5.objs.size = s.heap.objs.size := by rw [s5.1, s4.1, s3.1, s2.1, s1.1]
  have z5 : ZiS g5 z TI TO .ellipsis := s5.extBut _ _ D.TOz.symm (s4.extBut _ _ D.i2z.symm (s3.extBut _ _ D.TOz.symm (s2.extBut _ _ D.i1z.symm z1)))
  have k5 : ∀ c o, c ≠ z → c ≠ TO → c ≠ i1 → c ≠ i2 → s.heap.get? c = some o → g5.get? c = some o := fun c o c1 c2 c3 c4 e => s5.extBut _ _ c2 (s4.extBut _ _ c4 (s3.extBut _ _ c2 (s2.extBut _ _ c3 (s1.extBut _ _ c1 e))))
  have m1 : g5.IsTupleIter i1 l1 (k1 + 1) := ((j1.extBut s3.extBut D.TOi1.symm).extBut s4.extBut D.i12).extBut s5.extBut D.TOi1.symm
  have m2 : g5.IsTupleIter i2 l2 (k2 + 1) := j2.extBut s5.extBut D.TOi2.symm
  have hzlt : z < g5.objs.size := Heap.lt_size z5
  show wpAny _ _ (Builtin.SmallTypes.ownedTupleHandOut (Value.ref z) (.ref g5.objs.size) >>= _) _ _ _
  refine PySem.wpAny_bind ?_
  unfold Builtin.SmallTypes.ownedTupleHandOut
  have z6 : ZiS (g5.push { cls := .type "tuple", data := .seq #[x, y] }) z TI TO .ellipsis := Heap.get?_push_of_some _ z5
  refine PySem.wpAny_bind (wpAny_setField_rec z6 (by simp) fun g7 z7 s7 => ?_)
  replace z7 : ZiS g7 z TI TO (rawInt g5.objs.size) := z7
  refine PySem.wpAny_setField_rec z7 (by simp) fun g8 z8 s8 => ?_
  replace z8 : ZiS g8 z TI TO (rawInt g5.objs.size) := z8
  have up : ∀ c o, c ≠ z → g5.get? c = some o → g8.get? c = some o := fun c o c1 e => s8.extBut _ _ c1 (s7.extBut _ _ c1 (Heap.get?_push_of_some _ e))
  have t8 : IsPair g8 g5.objs.size x y := s8.extBut _ _ (Nat.ne_of_gt hzlt) (s7.extBut _ _ (Nat.ne_of_gt hzlt) (Heap.get?_push_size _ rfl))
  have n8 : g8.objs.size = g5.objs.size + 1 := by rw [s8.1, s7.1, Heap.size_push]
  rw [hsz] at z8 t8 n8
  refine PySem.wpAny_pure ⟨_, rfl, ?_⟩
  show Q (.ref g5.objs.size) _
  rw [hsz]
  exact hQ g8 z8 (up _ _ D.TOz t5) (m1.at fun o e => up _ o D.i1z e) (m2.at fun o e => up _ o D.i2z e) t8 n8 fun c o c1 c2 c3 c4 e => up c o c1 (k5 c o c1 c2 c3 c4 e)
theorem zipS_end {z TI TO i1 i2 l1 l2 : Addr} {k1 k2 : Nat} {xs ys : Array Value} {a b : Value} {Q : Fin → Shared → Prop} (hh : A.handled = none) (D : ZipApart z TI TO i1 i2 l1 l2)
    (hz : ZiS s.heap z TI TO .none) (hTI : IsPair s.heap TI (.ref i1) (.ref i2)) (hTO : IsPair s.heap TO a b) (h1 : s.heap.IsTupleIter i1 l1 k1) (h2 : s.heap.IsTupleIter i2 l2 k2) (hl1 : s.heap.IsTuple l1 xs) (hl2 : s.heap.IsTuple l2 ys) (hx : xs[k1]? = none) (hy : ys[k2]? = none)
    (hE : ∀ h' e, (∀ c o, c ≠ z → c ≠ TO → c ≠ i1 → c ≠ i2 → s.heap.get? c = some o → h'.get? c = some o) → (∃ o, h'.get? e = some o ∧ o.cls = .type "StopIteration") → E (.ref e) { s with heap := h' }) :
    wpAny (model prog w) A (Builtin.«zip.__next__» ⟨[.ref z], []⟩) Q E s := by
  show wpAny _ _ (field (Value.ref z) 2 >>= _) _ _ _
  refine PySem.wpAny_bind (wpAny_field hz rfl (x := .bool true) rfl ?_)
  show wpAny _ _ (field (Value.ref z) 3 >>= _) _ _ _
  refine PySem.wpAny_bind (wpAny_field hz rfl (x := .ref TI) rfl ?_)
  refine PySem.wpAny_bind (wpAny_seqItems hTI rfl ?_)
  show wpAny _ _ (Builtin.SmallTypes.ownedTupleIsFree (Value.ref z) >>= _) _ _ _
  refine PySem.wpAny_bind ?_
  unfold Builtin.SmallTypes.ownedTupleIsFree
  refine PySem.wpAny_bind (wpAny_field hz rfl (x := .none) rfl (wpAny_pure ?_))
  simp only [if_true]
  refine PySem.wpAny_bind (wpAny_rule ?_)
  refine PySem.wpAny_bind (wpAny_field hz rfl (x := .ref TO) rfl ?_)
  refine PySem.wpAny_bind (wpAny_setField_rec hz (by simp) fun g1 z1 s1 => ?_)
  replace z1 : ZiS g1 z TI TO .ellipsis := z1
  refine PySem.wpAny_bind ?_
  simp only [List.zipIdx_nil, List.zipIdx_cons, List.forIn_nil, List.forIn_cons]
  refine PySem.wpAny_bind (PySem.wpAny_bind (wpAny_onRaise ?_))
  show wpAny _ _ (Builtin.SmallTypes.nextOrEnd (.ref i1)) _ _ _
  refine orEnd_end hh (h1.extBut s1.extBut D.i1z) (hl1.extBut s1.extBut D.l1z) hx fun g2 s2 => ?_
  have z2 : ZiS g2 z TI TO .ellipsis := s2 _ _ D.i1z.symm z1
  refine PySem.wpAny_bind (wpAny_setField_rec z2 (by simp) fun g3 z3 s3 => ?_)
  refine PySem.wpAny_bind ?_
  refine PySem.wpAny_bind ?_
  simp only [List.drop_succ_cons, List.drop_zero, List.zipIdx_nil, List.zipIdx_cons, List.forIn_nil, List.forIn_cons]
  refine PySem.wpAny_bind (PySem.wpAny_bind ?_)
  have hs12 : ∀ c o, c ≠ z → c ≠ i1 → s.heap.get? c = some o → g3.get? c = some o := fun c o c1 c3 q => s3.extBut _ _ c1 (s2 _ _ c3 (s1.extBut _ _ c1 q))
  have n2 : g3.IsTupleIter i2 l2 k2 := h2.at fun o q => hs12 _ o D.i2z D.i12.symm q
  have q2 : g3.IsTuple l2 ys := ((hl2.extBut s1.extBut D.l2z).extBut s2 D.l2i1).extBut s3.extBut D.l2z
  refine orEnd_end hh n2 q2 hy fun g4 s4 => ?_
  rw [if_neg (by decide)]
  refine wpAny_pure (wpAny_pure (PySem.wpAny_bind (wpAny_rule ?_)))
  refine stop_wp hh fun g5 e k5 he => ?_
  exact hE g5 e (fun c o c1 _ c3 c4 q => k5 c o (s4 _ _ c4 (hs12 c o c1 c3 q))) he
theorem pyNext_zipS_item {z TI TO i1 i2 l1 l2 : Addr} {k1 k2 : Nat} {xs ys : Array Value} {x y a b : Value} {Q : Option Value → Shared → Prop} (D : ZipApart z TI TO i1 i2 l1 l2)
    (hz : ZiS s.heap z TI TO .none) (hTI : IsPair s.heap TI (.ref i1) (.ref i2)) (hTO : IsPair s.heap TO a b) (h1 : s.heap.IsTupleIter i1 l1 k1) (h2 : s.heap.IsTupleIter i2 l2 k2) (hl1 : s.heap.IsTuple l1 xs) (hl2 : s.heap.IsTuple l2 ys) (hx : xs[k1]? = some x) (hy : ys[k2]? = some y)
    (hQ : ∀ h', ZiS h' z TI TO (rawInt s.heap.objs.size) → IsPair h' TO x y → h'.IsTupleIter i1 l1 (k1 + 1) → h'.IsTupleIter i2 l2 (k2 + 1) → IsPair h' s.heap.objs.size x y → h'.objs.size = s.heap.objs.size + 1 → (∀ c o, c ≠ z → c ≠ TO → c ≠ i1 → c ≠ i2 → s.heap.get? c = some o → h'.get? c = some o) → Q (some (.ref s.heap.objs.size)) { s with heap := h' }) :
    wpAny (model prog w) A (pyNext (.ref z)) Q E s := by
  have hT : s.TypeIs (Value.ref z) "zip" := ⟨_, hz, rfl⟩
  unfold pyNext
  exact PySem.wpAny_bind (wpAny_attempt (wpAny_callSpecial?_slot (name := Str.ofString "__next__") hT F.slot_zip_next (wpAny_call_entry F.slot_zip_next hT F.entry_zip_next (zipS_item D hz hTI hTO h1 h2 hl1 hl2 hx hy fun h' a1 a2 a3 a4 a5 a6 a7 => wpAny_pure (hQ h' a1 a2 a3 a4 a5 a6 a7)) (F.args_zip_next_1 _))))
theorem pyNext_zipS_end {z TI TO i1 i2 l1 l2 : Addr} {k1 k2 : Nat} {xs ys : Array Value} {a b : Value} {Q : Option Value → Shared → Prop} (hh : A.handled = none) (D : ZipApart z TI TO i1 i2 l1 l2)
    (hz : ZiS s.heap z TI TO .none) (hTI : IsPair s.heap TI (.ref i1) (.ref i2)) (hTO : IsPair s.heap TO a b) (h1 : s.heap.IsTupleIter i1 l1 k1) (h2 : s.heap.IsTupleIter i2 l2 k2) (hl1 : s.heap.IsTuple l1 xs) (hl2 : s.heap.IsTuple l2 ys) (hx : xs[k1]? = none) (hy : ys[k2]? = none)
    (hQ : ∀ h', (∀ c o, c ≠ z → c ≠ TO → c ≠ i1 → c ≠ i2 → s.heap.get? c = some o → h'.get? c = some o) → Q none { s with heap := h' }) : wpAny (model prog w) A (pyNext (.ref z)) Q E s := by
  have hT : s.TypeIs (Value.ref z) "zip" := ⟨_, hz, rfl⟩
  unfold pyNext
  refine PySem.wpAny_bind (wpAny_attempt (wpAny_callSpecial?_slot (name := Str.ofString "__next__") hT F.slot_zip_next (wpAny_call_entry F.slot_zip_next hT F.entry_zip_next (zipS_end hh D hz hTI hTO h1 h2 hl1 hl2 hx hy fun h' e hk he => ?_) (F.args_zip_next_1 _))))
  obtain ⟨o, ho, hc⟩ := he
  refine PySem.wpAny_bind (wpAny_isInstance (T := "StopIteration") (b := true) ⟨o, ho, hc⟩ isSubtype_stop ?_)
  exact wpAny_pure (hQ _ hk)
theorem letGo_zipS {elts : List Expr} {x1} {pos : Pos} {z TI TO T : Addr} {Q : Unit → Shared → Prop} (hz : ZiS s.heap z TI TO (rawInt T)) (hQ : ∀ h', ZiS h' z TI TO .none → Heap.SameBut z s.heap h' → Q () { s with heap := h' }) :
    wpAny (model prog w) A (letOwnedTupleGo (.Tuple elts x1 pos) (.ref z) (.ref T)) Q E s := by
  unfold letOwnedTupleGo
  refine PySem.wpAny_bind (wpAny_load hz ?_)
  show wpAny _ _ (if (["enumerate", "zip", "dict_itemiterator", "dict_reverseitemiterator", "odict_iterator", "itertools.zip_longest", "itertools.pairwise"].contains "zip" && (#[rawInt T, .bool false, .bool true, .ref TI, .ref TO] : Array Value)[0]? == some (rawInt T)) = true then _ else _) Q E s
  rw [if_pos (by simp)]
  refine PySem.wpAny_bind (wpAny_rule ?_)
  show wpAny _ _ (setField (Value.ref z) 0 .none) Q E s
  exact wpAny_setField_rec hz (by simp) fun h' hz' hs' => hQ h' hz' hs'
theorem pyIter_zipS {z TI TO : Addr} {f0 : Value} {Q : Value → Shared → Prop} (hz : ZiS s.heap z TI TO f0) (h : Q (.ref z) s) : wpAny (model prog w) A (pyIter (.ref z)) Q E s := by
  have hT : s.TypeIs (Value.ref z) "zip" := ⟨_, hz, rfl⟩
  refine wpAny_pyIter_slot hT F.slot_zip_iter (wpAny_call_entry F.slot_zip_iter hT F.entry_zip_iter ?_ (F.args_zip_iter_1 _))
  show wpAny _ _ (ret (Value.ref z)) _ _ s
  exact wpAny_pure ⟨_, rfl, "zip", _, hT, F.slot_zip_next.lookup, h⟩
end
abbrev zS1 (h : Heap) (l1 : Addr) : Heap := h.push { cls := .type "tuple_iterator", data := .fields #[.ref l1, .int 0 0] }
abbrev zS2 (h : Heap) (l1 l2 : Addr) : Heap := (zS1 h l1).push { cls := .type "tuple_iterator", data := .fields #[.ref l2, .int 0 0] }
abbrev zS3 (h : Heap) (l1 l2 : Addr) : Heap := (zS2 h l1 l2).push { cls := .type "tuple", data := .seq #[.ref h.objs.size, .ref (zS1 h l1).objs.size] }
abbrev zS4 (h : Heap) (l1 l2 : Addr) : Heap := (zS3 h l1 l2).push { cls := .type "tuple", data := .seq #[.none, .none] }
abbrev zS5 (h : Heap) (l1 l2 : Addr) : Heap := (zS4 h l1 l2).push { cls := .type "zip", data := .fields #[.none, .bool false, .bool true, .ref (zS2 h l1 l2).objs.size, .ref (zS3 h l1 l2).objs.size] }
theorem meets_zipS_new (l1 l2 : Addr) (xs ys : Array Value) : Meets (Builtin.«zip.__new__» ⟨[.type "zip", .ref l1, .ref l2], [(Str.ofString "strict", .bool true)]⟩) (fun _ R s => s.heap.IsTuple l1 xs ∧ s.heap.IsTuple l2 ys ∧ R (.ok (.ret (.ref (zS4 s.heap l1 l2).objs.size))) { s with heap := zS5 s.heap l1 l2 }) :=
  .of_wp fun prog w A R s h => by
    obtain ⟨hp, g, d, tk, os⟩ := s
    obtain ⟨hl1, hl2, h⟩ := h
    have hsub := sub_zip
    have e1 : (Str.ofString "strict" != ("strict" : Str)) = false := by decide +kernel
    have L1 : Heap.IsTuple (Shared.heap ⟨hp, g, d, tk, os⟩) l1 xs := hl1
    have L2' : Heap.IsTuple (Shared.heap ⟨hp.push { cls := .type "tuple_iterator", data := .fields #[.ref l1, .int 0 0] }, g, d, tk, os⟩) l2 ys := Heap.IsTuple.push hl2 _
    wp_walk using wpAny_pyIter_tuple L1, wpAny_pyIter_tuple L2'
    exact ⟨_, rfl, h⟩
section
variable {prog : Program} {w : World} {A : Around} {E : Value → Shared → Prop} {s : Shared}
theorem callWith_tyK {M : Model} {A : Around} {E : Value → Shared → Prop} {s : Shared} {env : Env} {pos : Pos} {T : String} {e : Expr} {rest : List Expr} {kws : List Keyword} {Q : Value → Shared → Prop}
    (h : wpAny M A (spliced (backTo pos (starEach (e :: rest) env))) (fun vs s₁ => wpAny M A (evalAll ((backToKw pos (keywordEach kws env)).map (·.2))) (fun kvs s₂ => wpAny M A (call (.type T) vs (((backToKw pos (keywordEach kws env)).filterMap (·.1)).zip kvs)) Q E s₂) E s₁) E s)
    (he : backTo pos (starEach (e :: rest) env) = (false, eval e env) :: backTo pos (starEach rest env)) (hplain : (backTo pos (starEach (e :: rest) env)).any (·.1) = false)
    (hall : (backToKw pos (keywordEach kws env)).all (·.1.isSome) = true) (hkw : (backToKw pos (keywordEach kws env)).any (·.1.isNone) = false) :
    wpAny M A (callWith pos (.type T) [] (backTo pos (starEach (e :: rest) env)) (backToKw pos (keywordEach kws env))) Q E s := by
  have h' : wpAny M A (evalArgs (.type T) true (backTo pos (starEach (e :: rest) env)) (backToKw pos (keywordEach kws env))) (fun a s₁ => wpAny M A (call (.type T) ([] ++ a.pos) a.kw) Q E s₁) E s := by
    rw [he] at h ⊢
    exact PyProof.Rows.evalArgs_kwB hall h
  unfold callWith
  refine PySem.wpAny_bind (wpAny_holding (wpAny_mono h' (fun a s1 q1 => PySem.wpAny_bind (wpAny_standAt ?_)) fun _ _ x => x))
  simp only [hplain, hkw, Bool.or_false]
  refine PySem.wpAny_bind (wpAny_pure ?_)
  exact PySem.wpAny_bind (wpAny_mono q1 (fun r s2 hr => PySem.wpAny_bind (wpAny_holding (wpAny_point (wpAny_pure hr)))) fun _ _ x => x)
theorem call_zipS {l1 l2 : Addr} {xs ys : Array Value} {Q : Value → Shared → Prop} (hl1 : s.heap.IsTuple l1 xs) (hl2 : s.heap.IsTuple l2 ys)
    (h : ∀ h', ZiS h' (s.heap.objs.size + 4) (s.heap.objs.size + 2) (s.heap.objs.size + 3) .none → IsPair h' (s.heap.objs.size + 2) (.ref s.heap.objs.size) (.ref (s.heap.objs.size + 1)) → IsPair h' (s.heap.objs.size + 3) .none .none → h'.IsTupleIter s.heap.objs.size l1 0 → h'.IsTupleIter (s.heap.objs.size + 1) l2 0 → (∀ c o, s.heap.get? c = some o → h'.get? c = some o) → Q (.ref (s.heap.objs.size + 4)) { s with heap := h' }) :
    wpAny (model prog w) A (call (.type "zip") [.ref l1, .ref l2] [(Str.ofString "strict", .bool true)]) Q E s := by
  refine callType_newKw F.called_zip (by decide) (typeCall_zipS _ _ _) (newCall_zipS _ _ _) (fun obj => argsInit_zipS obj _ _ _) F.entry_zip_new (meets_zipS_new l1 l2 xs ys) ⟨hl1, hl2, ?_⟩
  have n1 : (zS1 s.heap l1).objs.size = s.heap.objs.size + 1 := Heap.size_push ..
  have n2 : (zS2 s.heap l1 l2).objs.size = s.heap.objs.size + 2 := by rw [Heap.size_push, n1]
  have n3 : (zS3 s.heap l1 l2).objs.size = s.heap.objs.size + 3 := by rw [Heap.size_push, n2]
  have n4 : (zS4 s.heap l1 l2).objs.size = s.heap.objs.size + 4 := by rw [Heap.size_push, n3]
  have g5 : (zS5 s.heap l1 l2).get? (zS4 s.heap l1 l2).objs.size = some _ := Heap.get?_push_size _ rfl
  have g4 : (zS5 s.heap l1 l2).get? (zS3 s.heap l1 l2).objs.size = some _ := Heap.get?_push_of_some _ (Heap.get?_push_size _ rfl)
  have g3 : (zS5 s.heap l1 l2).get? (zS2 s.heap l1 l2).objs.size = some _ := Heap.get?_push_of_some _ (Heap.get?_push_of_some _ (Heap.get?_push_size _ rfl))
  have g2 : (zS5 s.heap l1 l2).get? (zS1 s.heap l1).objs.size = some _ := Heap.get?_push_of_some _ (Heap.get?_push_of_some _ (Heap.get?_push_of_some _ (Heap.get?_push_size _ rfl)))
  have g1 : (zS5 s.heap l1 l2).get? s.heap.objs.size = some _ := Heap.get?_push_of_some _ (Heap.get?_push_of_some _ (Heap.get?_push_of_some _ (Heap.get?_push_of_some _ (Heap.get?_push_size _ rfl))))
  show _ ∧ _
  rw [n2, n3, n4] at g5
  rw [n1, n2] at g3
  rw [n3] at g4
  rw [n1] at g2
  rw [n4]
  exact ⟨⟨_, g5, rfl⟩, h _ g5 g3 g4 ⟨_, g1, rfl, rfl⟩ ⟨_, g2, rfl, rfl⟩ fun c o x => Heap.get?_push_of_some _ (Heap.get?_push_of_some _ (Heap.get?_push_of_some _ (Heap.get?_push_of_some _ (Heap.get?_push_of_some _ x))))⟩
end
/-- two tuples of one length, as they stand at each turn -/
def ItS (K : PySem.W.Frag) (a b : Addr) : It :=
  ⟨fun i H => ∃ (xs ys : List V) (x y : V), SqT K H a xs ∧ SqT K H b ys ∧ xs[i]? = some x ∧ ys[i]? = some y, fun i H v H' => ∃ T x y, v = .ref T ∧ H T = none ∧ H' = upd H T (.tup [x, y]) ∧ (∀ xs, SqT K H a xs → xs[i]? = some x) ∧ ∀ ys, SqT K H b ys → ys[i]? = some y, fun i H => ∃ xs ys : List V, SqT K H a xs ∧ SqT K H b ys ∧ xs.length ≤ i ∧ ys.length ≤ i⟩
theorem five {c z TI TO i1 i2 : Addr} (h : c ∈ [z, TI, TO, i1, i2]) : c = z ∨ c = TI ∨ c = TO ∨ c = i1 ∨ c = i2 := by simpa using h
theorem turn_zipS {P : Program} {w : World} {K : PySem.W.Frag} {elts : List Expr} {kk : Nat} {tpos : Pos} {a b z TI TO i1 i2 : Addr} (D : ZipApart z TI TO i1 i2 a b) :
    Turn P w K (.Tuple elts kk tpos) (ItS K a b) [z, TI, TO, i1, i2] z (fun i h => ZiS h z TI TO .none ∧ IsPair h TI (.ref i1) (.ref i2) ∧ (∃ x y, IsPair h TO x y) ∧ h.IsTupleIter i1 a i ∧ h.IsTupleIter i2 b i) where
  mem := by simp
  obj := fun i h st c hc => by
    obtain ⟨hz, hTI, ⟨x, y, hTO⟩, ⟨o1, e1, _, d1⟩, ⟨o2, e2, _, d2⟩⟩ := st
    rcases five hc with rfl | rfl | rfl | rfl | rfl
    · exact ⟨_, hz, fun v q => nomatch q⟩
    · exact ⟨_, hTI, fun v q => nomatch q⟩
    · exact ⟨_, hTO, fun v q => nomatch q⟩
    · exact ⟨o1, e1, fun v q => by rw [d1] at q; cases q⟩
    · exact ⟨o2, e2, fun v q => by rw [d2] at q; cases q⟩
  keep := fun i h h' st k => by
    obtain ⟨hz, hTI, ⟨x, y, hTO⟩, h1, h2⟩ := st
    exact ⟨k z (by simp) _ hz, k TI (by simp) _ hTI, ⟨x, y, k TO (by simp) _ hTO⟩, h1.at fun o q => k i1 (by simp) o q, h2.at fun o q => k i2 (by simp) o q⟩
  item := by
    intro X hP hw hK hc i pins s σ H E I hf st hg
    subst hP hw hK
    obtain ⟨hz, hTI, ⟨x0, y0, hTO⟩, h1, h2⟩ := st
    obtain ⟨xs, ys, x, y, hqx, hqy, hx, hy⟩ := hg
    obtain ⟨its, rv, p, _⟩ := I.tuple hqx
    obtain ⟨its2, rv2, p2, _⟩ := I.tuple hqy
    obtain ⟨u, hu, ru⟩ := rv.get hx
    obtain ⟨u2, hu2, ru2⟩ := rv2.get hy
    have hzl : z < s.heap.objs.size := Heap.lt_size hz
    refine pyNext_zipS_item D hz hTI hTO h1 h2 p p2 (x := u) (y := u2) (by simpa using hu) (by simpa using hu2) fun h' z' TO' h1' h2' hT hsz hk => ?_
    refine ⟨_, rfl, letGo_zipS (s := { s with heap := h' }) z' fun h'' z'' sb => ?_⟩
    have hT2 : h''.get? s.heap.objs.size = some { cls := .type "tuple", data := .seq #[u, u2] } := (sb.2 _ (Nat.ne_of_gt hzl)).trans hT
    have new : ObjOk X.prog X.w (upd H s.heap.objs.size (.tup [x, y])) h'' s.heap.objs.size (.tup [x, y]) := ⟨by show 2 ≤ sizeLine; decide, [u, u2], .cons ru (.cons ru2 .nil), ⟨_, hT2, rfl, _, rfl⟩⟩
    have kk' : ∀ c o, c ∉ [z, TI, TO, i1, i2] → s.heap.get? c = some o → h''.get? c = some o := fun c o hb q => (sb.2 c (fun q' => hb (by simp [q']))).trans (hk c o (fun q' => hb (by simp [q'])) (fun q' => hb (by simp [q'])) (fun q' => hb (by simp [q'])) (fun q' => hb (by simp [q'])) q)
    have I1 : Inv X pins σ (upd H s.heap.objs.size (.tup [x, y])) { s with heap := h'' } := I.turnedNew (t' := s.toks) (ch := [z, TI, TO, i1, i2]) kk' hf (Nat.le_refl _) new
    refine ⟨.ref s.heap.objs.size, _, I1, rfl, ⟨_, x, y, rfl, I.hok.fresh (Nat.le_refl _), rfl, fun l hl => by rw [I.tuple_inj hl hqx]; exact hx, fun l hl => by rw [I.tuple_inj hl hqy]; exact hy⟩, ⟨z'', (sb.2 _ D.TIz).trans (hk _ _ D.TIz D.TITO D.TIi1 D.TIi2 hTI), ⟨u, u2, (sb.2 _ D.TOz).trans TO'⟩, h1'.at fun o q => (sb.2 _ D.i1z).trans q, h2'.at fun o q => (sb.2 _ D.i2z).trans q⟩, fun c hcm => ?_⟩
    have hlt : c < s.heap.objs.size := by
      rcases five hcm with rfl | rfl | rfl | rfl | rfl
      · exact hzl
      · exact Heap.lt_size hTI
      · exact Heap.lt_size hTO
      · obtain ⟨_, e1, _⟩ := h1
        exact Heap.lt_size e1
      · obtain ⟨_, e2, _⟩ := h2
        exact Heap.lt_size e2
    rw [upd_ne (Nat.ne_of_lt hlt)]
    exact (hf c hcm).1
  done := by
    intro X hP hw hK hc i pins s σ H E I hf st hg
    subst hP hw hK
    obtain ⟨hz, hTI, ⟨x0, y0, hTO⟩, h1, h2⟩ := st
    obtain ⟨xs, ys, hqx, hqy, q1, q2⟩ := hg
    obtain ⟨its, rv, p, _⟩ := I.tuple hqx
    obtain ⟨its2, rv2, p2, _⟩ := I.tuple hqy
    have l1 := rv.length
    have l2 := rv2.length
    exact pyNext_zipS_end (I.ok.hd hc) D hz hTI hTO h1 h2 p p2 (by simp; omega) (by simp; omega) fun h' hk => ⟨rfl, I.turnedL (t' := s.toks) (ch := [z, TI, TO, i1, i2]) (fun c o hb q => hk c o (fun q' => hb (by simp [q'])) (fun q' => hb (by simp [q'])) (fun q' => hb (by simp [q'])) (fun q' => hb (by simp [q'])) q) hf⟩
  self := fun A i s Q E st h => pyIter_zipS st.1 h
def iZipS (K : PySem.W.Frag) (ta tk : TA) : TI := fun σ H R => ta σ H fun vs H1 => tk σ H1 fun zs H2 => ∃ a b xs ys, vs = [.ref a, .ref b] ∧ zs = [.bl true] ∧ SqT K H2 a xs ∧ SqT K H2 b ys ∧ R (ItS K a b) H2
theorem pi_zipS {X : Cx} {e e2 : Expr} {ta tk : TA} {p pos tpos : Pos} {elts : List Expr} {kk : Nat} {kws : List Keyword} (hg : Gl X "zip") (hm : X.mg "zip" = none) (ha : PA X [e, e2] ta) (hk : PK X kws tk)
    (he : backTo pos (starEach [e, e2] X.env) = (false, eval e X.env) :: backTo pos (starEach [e2] X.env) := by rfl) (hpl : (backTo pos (starEach [e, e2] X.env)).any (·.1) = false := by rfl)
    (hall : (backToKw pos (keywordEach kws X.env)).all (·.1.isSome) = true := by rfl) (hnone : (backToKw pos (keywordEach kws X.env)).any (·.1.isNone) = false := by rfl) (hks : (backToKw pos (keywordEach kws X.env)).filterMap (·.1) = [Str.ofString "strict"] := by rfl) :
    PI X (.Tuple elts kk tpos) (.Call (.Name "zip" p) [e, e2] kws pos) (iZipS X.K ta tk) := by
  refine ⟨fun pins s σ H R I h => ?_⟩
  refine wpAny_Call_Name_kw (ld_blt I hg hm PyProof.Rows.boot_zip ?_)
  refine callWith_tyK (thn (ha.run pos pins s σ H _ I h) fun us s1 ⟨vs, H1, I1, r1, q1⟩ => thn (hk.run pos pins s1 σ H1 _ I1 q1) fun ws s2 ⟨zs, H2, I2, r2, q2⟩ => ?_) he hpl hall hnone
  rw [hks]
  obtain ⟨a, b, xs, ys, rfl, rfl, hqx, hqy, q⟩ := q2
  cases r1 with
  | cons r rr =>
    cases rr with
    | cons r' rr =>
      cases rr
      cases r
      cases r'
      cases r2 with
      | cons r3 rr3 =>
        cases rr3
        cases r3
        obtain ⟨its, rv, p1, _⟩ := I2.tuple hqx
        obtain ⟨its2, rv2, p2, _⟩ := I2.tuple hqy
        obtain ⟨o1, ho1, _⟩ := id p1
        obtain ⟨o2, ho2, _⟩ := id p2
        refine call_zipS (show s2.heap.IsTuple a its.toArray from p1) (show s2.heap.IsTuple b its2.toArray from p2) fun h' hz hTI hTO h1 h2 hk => pyIter_zipS hz ?_
        have I3 : Inv X pins σ H2 { s2 with heap := h' } := I2.kept (t' := s2.toks) hk
        refine ⟨s2.heap.objs.size + 4, [s2.heap.objs.size + 4, s2.heap.objs.size + 2, s2.heap.objs.size + 3, s2.heap.objs.size, s2.heap.objs.size + 1], _, _, H2, rfl, I3, turn_zipS (PySem.W.ktu_apart s2.heap.objs.size a b (Heap.lt_size ho1) (Heap.lt_size ho2)), ⟨hz, hTI, ⟨_, _, hTO⟩, h1, h2⟩, fun c hcm => ?_, q⟩
        have hle : s2.heap.objs.size ≤ c := by
          rcases five hcm with rfl | rfl | rfl | rfl | rfl
          · exact Nat.le_add_right _ _
          · exact Nat.le_add_right _ _
          · exact Nat.le_add_right _ _
          · exact Nat.le_refl _
          · exact Nat.le_add_right _ _
        exact I2.fpOk hle (I2.hok.fresh hle)
theorem walk_zipS {K : PySem.W.Frag} {a b : Addr} {xs ys : List V} (e : xs.length = ys.length) : Walk (ItS K a b) xs.length (fun H => SqT K H a xs ∧ SqT K H b ys) (fun i H v H' => ∃ T x y, v = .ref T ∧ H T = none ∧ H' = upd H T (.tup [x, y]) ∧ xs[i]? = some x ∧ ys[i]? = some y) :=
  ⟨fun i H hi h => ⟨xs, ys, _, _, h.1, h.2, List.getElem?_eq_getElem hi, List.getElem?_eq_getElem (e ▸ hi)⟩, fun H h => ⟨xs, ys, h.1, h.2, Nat.le_refl _, by omega⟩, fun i H v H' hi h y => by
    obtain ⟨T, x, z, e1, e2, e3, h1, h2⟩ := y
    exact ⟨T, x, z, e1, e2, e3, h1 xs h.1, h2 ys h.2⟩⟩
theorem loopZS {σ : L2.St} {H : Hp} {D : Ends} {K : PySem.W.Frag} {g : TG} {tb : TS} {a b : Addr} {xs ys : List V} (e : xs.length = ys.length) (Pv : Nat → L2.St → Hp → Prop) (h0 : Pv 0 σ H) (hl : ∀ i σ H, i ≤ xs.length → Pv i σ H → SqT K H a xs ∧ SqT K H b ys)
    (hs : ∀ i x y T σ H H', i < xs.length → xs[i]? = some x → ys[i]? = some y → Pv i σ H → H T = none → Sm H H' → H' T = some (.tup [x, y]) → g (.ref T) σ H' fun σ2 H2 => tb (En (Pv (i + 1)) (RT D) (NX D) (Pv (i + 1))) σ2 H2) (hd : ∀ σ H, Pv xs.length σ H → NX D σ H) : Loop (ItS K a b) g tb D σ H :=
  for_it (walk_zipS e) Pv h0 hl (fun i x σ H H' hi p y => by
    obtain ⟨T, u, v, rfl, hT, rfl, h1, h2⟩ := y
    exact hs i u v T σ H _ hi h1 h2 p hT (sm_new hT) upd_same) hd
def ZsE (K : PySem.W.Frag) (R : It → Hp → Prop) (vs zs : List V) (H2 : Hp) : Prop := ∃ a b xs ys, vs = [.ref a, .ref b] ∧ zs = [.bl true] ∧ SqT K H2 a xs ∧ SqT K H2 b ys ∧ R (ItS K a b) H2
theorem w_iZS {K : PySem.W.Frag} {σ : L2.St} {H : Hp} {ta tk : TA} {R : It → Hp → Prop} (k : ta σ H fun vs H1 => tk σ H1 fun zs H2 => ZsE K R vs zs H2) : iZipS K ta tk σ H R := k
theorem w_iZSe {K : PySem.W.Frag} {H : Hp} {R : It → Hp → Prop} {a b : Addr} {xs ys : List V} (h1 : SqT K H a xs) (h2 : SqT K H b ys) (k : R (ItS K a b) H) : ZsE K R [.ref a, .ref b] [.bl true] H := ⟨a, b, xs, ys, rfl, rfl, h1, h2, k⟩
local macro_rules | `(tactic| tm_at "rs") => `(tactic| first | with_reducible refine w_iZS ?_ | ((with_reducible refine' w_iZSe ?h ?i ?k); (case h => tm_at "rst"); (case i => tm_at "rst")) | fail "no")

/-! texts: signs of them -/
theorem tl_len (z : Str) : z.cps.toList.length = z.length := Array.length_toList
theorem w_ixSF {K : PySem.W.Frag} {H : Hp} {Q : VK} {z : Str} {i : Int} (zl : z.length ≤ 1000) (h0 : 0 ≤ i) (h1 : i < (z.length : Int)) (k : ∀ c : Nat, z.cps.toList[i.toNat]? = some c → Q (.str ⟨#[c]⟩) H) : rIx K (.str z) (.int i) H Q := by
  obtain ⟨j, rfl⟩ := Int.eq_ofNat_of_zero_le h0
  have h2 : j < z.cps.toList.length := by rw [tl_len]; omega
  exact .inr (.inr ⟨z, j, _, rfl, rfl, sz_of (by omega), atI_nat (List.getElem?_eq_getElem h2), k _ (List.getElem?_eq_getElem h2)⟩)
def gInS : R2 := fun x y H Q => ∃ (c : Nat) (z : Str), x = .str ⟨#[c]⟩ ∧ y = .str z ∧ Q (.bl (decide (c ∈ z.cps.toList))) H
def gNotInS : R2 := fun x y H Q => ∃ (c : Nat) (z : Str), x = .str ⟨#[c]⟩ ∧ y = .str z ∧ Q (.bl (!decide (c ∈ z.cps.toList))) H
theorem op_gInS {X : Cx} : OpR X (compareOp .In) gInS := op_in_sign
theorem op_gNotInS {X : Cx} : OpR X (compareOp .NotIn) gNotInS := op_notIn_sign
theorem w_inS {H : Hp} {Q : VK} {c : Nat} {z : Str} (k : Q (.bl (decide (c ∈ z.cps.toList))) H) : gInS (.str ⟨#[c]⟩) (.str z) H Q := ⟨c, z, rfl, rfl, k⟩
theorem w_notInS {H : Hp} {Q : VK} {c : Nat} {z : Str} (k : Q (.bl (!decide (c ∈ z.cps.toList))) H) : gNotInS (.str ⟨#[c]⟩) (.str z) H Q := ⟨c, z, rfl, rfl, k⟩
def ItsE (R : It → Hp → Prop) (v : V) (H1 : Hp) : Prop := ∃ x, v = .str x ∧ R (Its x) H1
theorem w_iS {σ : L2.St} {H : Hp} {te : TE} {R : It → Hp → Prop} (k : te σ H fun v H1 => ItsE R v H1) : iStr te σ H R := k
theorem w_iSe {H : Hp} {R : It → Hp → Prop} {z : Str} (k : R (Its z) H) : ItsE R (.str z) H := ⟨z, rfl, k⟩
theorem lcS {σ : L2.St} {H : Hp} {Q : VK} {g : TG} {tt : TT} {te : TE} {vs : List Nat} {z : Str} (Pv : Addr → Nat → Hp → Prop) (h0 : ∀ D H', H D = none → Sm H H' → H' D = some (.lst []) → Pv D 0 H')
    (hs : ∀ D i c H', H D = none → z.cps.toList[i]? = some c → Pv D i H' → g (.str ⟨#[c]⟩) (wipe σ vs) H' fun σ2 H2 => LcGo vs σ σ2 (tt σ2 H2 fun b H3 => if b = true then te σ2 H3 fun y H4 => LcEnd D y (Pv D (i + 1)) H4 else Pv D (i + 1) H3))
    (hd : ∀ D H', H D = none → Pv D z.length H' → Q (.ref D) H') : LcL (Its z) g tt te vs σ H Q := fun D hD =>
  lc_it walk_str (Pv D) (h0 D _ hD (sm_new hD) upd_same) (fun _ _ _ _ => trivial) (fun i x H1 H' hi p y => by
    obtain ⟨rfl, c, hc, rfl⟩ := y
    exact hs D i c _ hD (by rw [Array.getElem?_toList]; exact hc) p) (fun H' p => hd D H' hD p)
theorem app_len (a b : Str) : (a ++ b).length = a.length + b.length := Array.size_append
def ChE (r' : R2) (tc : TE) (σ : L2.St) (Q : VK) (y z : V) (H3 : Hp) : Prop := ∃ k, z = .bl k ∧ (if k = true then tc σ H3 fun w' H4 => r' y w' H4 Q else Q (.bl false) H3)
theorem w_chain {r r' : R2} {ta tb tc : TE} {σ : L2.St} {H : Hp} {Q : VK} (k : ta σ H fun x H1 => tb σ H1 fun y H2 => r x y H2 fun z H3 => ChE r' tc σ Q y z H3) : tChain r r' ta tb tc σ H Q := k
theorem w_chE {r' : R2} {tc : TE} {σ : L2.St} {Q : VK} {y : V} {H3 : Hp} {p : Prop} [Decidable p] (a : p → tc σ H3 fun w' H4 => r' y w' H4 Q) (b : ¬ p → Q (.bl false) H3) : ChE r' tc σ Q y (.bl (decide p)) H3 := by
  refine ⟨_, rfl, ?_⟩
  by_cases h : p
  · rw [if_pos (decide_eq_true h)]; exact a h
  · rw [if_neg (by rw [decide_eq_false h]; decide)]; exact b h
def JoinE (K : PySem.W.Frag) (x y : V) (Q : VK) (H : Hp) : Prop := ∃ a p, ∃ ys : List Str, x = .str a ∧ [y] = [.ref p] ∧ (SqL K H p (ys.map V.str) ∨ SqT K H p (ys.map V.str)) ∧ (ys.map (·.length)).sum + ys.length * a.length ≤ 16777216 ∧ Q (.str (Txt.join a ys)) H
theorem w_join {K : PySem.W.Frag} {to te : TE} {σ : L2.St} {H : Hp} {Q : VK} (k : to σ H fun x H1 => (∃ a, x = .str a) ∧ te σ H1 fun y H2 => JoinE K x y Q H2) :
    tM1 (fun x xs H Q => ∃ a p, ∃ ys : List Str, x = .str a ∧ xs = [.ref p] ∧ (SqL K H p (ys.map V.str) ∨ SqT K H p (ys.map V.str)) ∧ (ys.map (·.length)).sum + ys.length * a.length ≤ 16777216 ∧ Q (.str (Txt.join a ys)) H) to te σ H Q := k
theorem w_isS {P : Prop} {s : Str} (k : P) : (∃ a, V.str s = .str a) ∧ P := ⟨⟨_, rfl⟩, k⟩
theorem sum_ones : ∀ ys : List Str, (∀ y ∈ ys, y.length = 1) → (ys.map (·.length)).sum = ys.length
  | [], _ => rfl
  | y :: ys, h => by
    rw [List.map_cons, List.sum_cons, List.length_cons, sum_ones ys (fun z hz => h z (List.mem_cons_of_mem _ hz)), h y List.mem_cons_self, Nat.add_comm]
theorem w_joinE {K : PySem.W.Frag} {H : Hp} {Q : VK} {p : Addr} {ys : List Str} (h : SqL K H p (ys.map V.str)) (h1 : ∀ y ∈ ys, y.length = 1) (hn : ys.length ≤ 10000) (k : Q (.str (Txt.join (Str.ofString "") ys)) H) : JoinE K (.str (Str.ofString "")) (.ref p) Q H := by
  refine ⟨_, p, ys, rfl, rfl, .inl h, ?_, k⟩
  rw [sum_ones ys h1, show (Str.ofString "").length = 0 from rfl, Nat.mul_zero]
  omega
theorem w_slS {H : Hp} {Q : VK} {z : Str} {lo hi : Option Int} (zl : z.length ≤ 10000) (k : (cutS z lo hi).length ≤ z.length → Q (.str (cutS z lo hi)) H) : rSlS (.str z) lo hi H Q := ⟨z, rfl, sz_of (by omega), k (cutS_length _ _ _)⟩
theorem sgn_len (c : Nat) : (⟨#[c]⟩ : Str).length = 1 := rfl
local macro_rules | `(tactic| tm_at "rs") => `(tactic| first | with_reducible refine w_join ?_ | with_reducible refine w_isS ?_ | ((with_reducible refine w_slS ?h (fun _ => ?_)); (case h => first | omega | (simp only [app_len, sgn_len]; omega))) | with_reducible refine w_chain ?_ | with_reducible refine w_chE (fun _ => ?_) (fun _ => ?_) | with_reducible refine w_inS ?_ | with_reducible refine w_notInS ?_ | with_reducible refine w_iS ?_ | with_reducible refine w_iSe ?_ | ((with_reducible refine w_ixSF ?h ?i ?j (fun _ _ => ?_)); (case h => first | omega | decide); (case i => omega); (case j => first | omega | decide)) | ((with_reducible refine w_lenS ?h ?_); (case h => first | (apply sz_of; omega) | exact sz_of (by decide) | (apply sz_of; simp only [app_len, sgn_len]; omega))) | ((with_reducible refine w_addS ?h ?_); (case h => first | (apply sz_of; omega) | (apply sz_of; simp only [app_len, sgn_len]; omega) | exact sz_of (by decide))) | fail "no")

/-! enumerate over a text -/
def ItSE (x : Str) : It :=
  ⟨fun i _ => i < x.cps.size, fun i H v H' => ∃ T c, v = .ref T ∧ H T = none ∧ H' = upd H T (.tup [.int (i : Nat), .str ⟨#[c]⟩]) ∧ x.cps[i]? = some c, fun i _ => x.cps.size = i⟩
theorem turn_SE {P : Program} {w : World} {K : PySem.W.Frag} {elts : List Expr} {kk : Nat} {tpos : Pos} (x : Str) (t : Tok) (e it : Addr) :
    Turn P w K (.Tuple elts kk tpos) (ItSE x) [e, it] e (fun i h => (∃ old, IsEnum h e it ((i : Nat) : Int) old) ∧ h.IsStrIter it (strIterType x) x t i ∧ e ≠ it) where
  mem := List.mem_cons_self
  obj := by
    rintro i h ⟨⟨old, he⟩, ⟨o, ho, hc, hd⟩, _⟩ b hb
    rcases (show b = e ∨ b = it by simpa using hb) with rfl | rfl
    · exact ⟨_, he, fun v q => nomatch q⟩
    · exact ⟨o, ho, fun v q => by rw [hd] at q; cases q⟩
  keep := by
    rintro i h h' ⟨⟨old, he⟩, ⟨o, ho, r⟩, ne⟩ k
    exact ⟨⟨old, k e (by simp) _ he⟩, ⟨o, k it (by simp) o ho, r⟩, ne⟩
  item := by
    intro X hP hw hK hc i pins s σ H E I hf st hg
    subst hP hw hK
    obtain ⟨⟨old, he⟩, hit, hne⟩ := st
    have hel : e < s.heap.objs.size := Heap.lt_size he
    have hil : it < s.heap.objs.size := by
      obtain ⟨_, q, _⟩ := hit
      exact Heap.lt_size q
    have hif : e ∉ [it] := by simpa using hne
    have D := Draws.text (prog := X.prog) (w := X.w) (A := X.A.in1) (I.ok.hd hc) it x t
    refine wpAny_pyNext_enum_itemD D he hit hg hne hif fun u h' tk hu ho hit' hT hsz hk => ?_
    obtain ⟨c, tc, hcx, rfl⟩ := hu
    refine ⟨_, rfl, wpAny_letOwnedTupleGo_enum (prog := X.prog) (w := X.w) (s := { s with heap := h', toks := tk + 1 }) ho fun h'' he' sb => ?_⟩
    have hT2 := (sb.2 _ (Nat.ne_of_gt hel)).trans hT
    have new : ObjOk X.prog X.w (upd H s.heap.objs.size (.tup [.int (i : Nat), .str ⟨#[c]⟩])) h'' s.heap.objs.size (.tup [.int (i : Nat), .str ⟨#[c]⟩]) :=
      ⟨by show 2 ≤ sizeLine; decide, [.int i tk, .str ⟨#[c]⟩ tc], .cons ⟨_, rfl⟩ (.cons ⟨_, rfl⟩ .nil), ⟨_, hT2, rfl, _, rfl⟩⟩
    have I1 := Inv.turnedNew (t' := tk + 1) I (ch := [e, it]) (fun b ob hb q => (sb.2 b (fun z => hb (by simp [z]))).trans (hk b ob (fun z => hb (by simp [z])) (fun z => hb (by simp [z])) q)) hf (Nat.le_refl _) new
    refine ⟨.ref s.heap.objs.size, _, I1, rfl, ⟨_, c, rfl, I.hok.fresh (Nat.le_refl _), rfl, hcx⟩, ⟨⟨.str ⟨#[c]⟩ tc, ?_⟩, ?_, hne⟩, fun b hb => ?_⟩
    · rw [show ((i + 1 : Nat) : Int) = (i : Int) + 1 from rfl]
      exact he'
    · obtain ⟨o, q, r⟩ := hit'
      exact ⟨o, (sb.2 it (Ne.symm hne)).trans q, r⟩
    · have hb' : b < s.heap.objs.size := by
        rcases (show b = e ∨ b = it by simpa using hb) with rfl | rfl
        · exact hel
        · exact hil
      rw [upd_ne (Nat.ne_of_lt hb')]
      exact (hf b hb).1
  done := by
    intro X hP hw hK hc i pins s σ H E I hf st hg
    subst hP hw hK
    obtain ⟨⟨old, he⟩, hit, hne⟩ := st
    have hg : x.cps.size = i := hg
    subst hg
    obtain ⟨f0, f1, f2, f3, f4, f5⟩ := hf it (by simp)
    have D := Draws.text (prog := X.prog) (w := X.w) (A := X.A.in1) (I.ok.hd hc) it x t
    exact wpAny_pyNext_enum_endD D he hit fun h' eb => ⟨rfl, I.turned (t' := s.toks) (fun b o hb q => eb b o hb q) f0 f1 f3 f4 f5⟩
  self := fun A i s Q E st h => by
    obtain ⟨⟨_, he⟩, _⟩ := st
    exact wpAny_pyIter_enum he h
def iSE (ta : TA) : TI := fun σ H R => ta σ H fun vs H1 => ∃ x, vs = [.str x] ∧ R (ItSE x) H1
theorem pi_SE {X : Cx} {e : Expr} {ta : TA} {p pos tpos : Pos} {elts : List Expr} {kk : Nat} (hg : Gl X "enumerate") (hm : X.mg "enumerate" = none) (ha : PA X [e] ta) (hs : starEach [e] X.env = [(false, eval e X.env)] := by rfl) :
    PI X (.Tuple elts kk tpos) (.Call (.Name "enumerate" p) [e] [] pos) (iSE ta) := by
  refine ⟨fun pins s σ H R I h => Call_ (ld_blt I hg hm boot_enumerate (PyProof.Rows.callWith_type1 (thn (ha.run pos pins s σ H _ I h) fun us s1 ⟨vs, H1, I1, r1, q1⟩ => ?_) hs rfl))⟩
  obtain ⟨x, rfl, q⟩ := q1
  obtain ⟨u, rfl, t, rfl⟩ := vals1 r1
  refine call_enumerate_str fun h' he hit hsz hk => wpAny_pyIter_enum he ?_
  have I2 : Inv X pins σ H1 { s1 with heap := h' } := Inv.kept (t' := s1.toks) I1 hk
  refine ⟨s1.heap.objs.size + 1, [s1.heap.objs.size + 1, s1.heap.objs.size], _, _, H1, rfl, I2, turn_SE x t (s1.heap.objs.size + 1) s1.heap.objs.size, ⟨⟨.none, he⟩, hit, Nat.succ_ne_self _⟩, fun b hb => ?_, q⟩
  have hle : s1.heap.objs.size ≤ b := by
    rcases (show b = s1.heap.objs.size + 1 ∨ b = s1.heap.objs.size by simpa using hb) with rfl | rfl
    · exact Nat.le_add_right _ _
    · exact Nat.le_refl _
  exact I1.fpOk hle (I1.hok.fresh hle)
theorem walk_SE {z : Str} : Walk (ItSE z) z.cps.size (fun _ => True) (fun i H v H' => ∃ T c, v = .ref T ∧ H T = none ∧ H' = upd H T (.tup [.int (i : Nat), .str ⟨#[c]⟩]) ∧ z.cps[i]? = some c) :=
  ⟨fun _ _ hi _ => hi, fun _ _ => rfl, fun _ _ _ _ _ _ y => y⟩
def SEe (R : It → Hp → Prop) (vs : List V) (H1 : Hp) : Prop := ∃ x, vs = [.str x] ∧ R (ItSE x) H1
theorem w_iSE {σ : L2.St} {H : Hp} {ta : TA} {R : It → Hp → Prop} (k : ta σ H fun vs H1 => SEe R vs H1) : iSE ta σ H R := k
theorem w_iSEe {H : Hp} {R : It → Hp → Prop} {x : Str} (k : R (ItSE x) H) : SEe R [.str x] H := ⟨x, rfl, k⟩
theorem loopSE {σ : L2.St} {H : Hp} {D : Ends} {g : TG} {tb : TS} {z : Str} (Pv : Nat → L2.St → Hp → Prop) (h0 : Pv 0 σ H)
    (hs : ∀ i c T σ H H', i < z.cps.size → z.cps.toList[i]? = some c → Pv i σ H → H T = none → Sm H H' → H' T = some (.tup [.int (i : Nat), .str ⟨#[c]⟩]) → g (.ref T) σ H' fun σ2 H2 => tb (En (Pv (i + 1)) (RT D) (NX D) (Pv (i + 1))) σ2 H2)
    (hd : ∀ σ H, Pv z.cps.size σ H → NX D σ H) : Loop (ItSE z) g tb D σ H :=
  for_it walk_SE Pv h0 (fun _ _ _ _ _ => trivial) (fun i x σ H H' hi p y => by
    obtain ⟨T, c, rfl, hT, rfl, hc⟩ := y
    exact hs i c T σ H _ hi (by rw [Array.getElem?_toList]; exact hc) p hT (sm_new hT) upd_same) hd
/-- what is never reached -/
theorem ps_never {X : Cx} {st : Stmt} : PS X st (fun _ _ _ => False) := ⟨fun _ _ _ _ _ _ h => h.elim⟩
local macro_rules | `(tactic| tm_at "rs") => `(tactic| first | with_reducible refine w_iSE ?_ | with_reducible refine w_iSEe ?_ | fail "no")

/-! enumerate over a list -/
def EnE (K : PySem.W.Frag) (R : It → Hp → Prop) (vs : List V) (H1 : Hp) : Prop := ∃ a xs, vs = [.ref a] ∧ SqL K H1 a xs ∧ R (Ite K a) H1
theorem w_iEn {K : PySem.W.Frag} {σ : L2.St} {H : Hp} {ta : TA} {R : It → Hp → Prop} (k : ta σ H fun vs H1 => EnE K R vs H1) : iEnum K ta σ H R := k
theorem w_iEne {K : PySem.W.Frag} {H : Hp} {R : It → Hp → Prop} {a : Addr} {xs : List V} (h : SqL K H a xs) (k : R (Ite K a) H) : EnE K R [.ref a] H := ⟨a, xs, rfl, h, k⟩
theorem loopEn {σ : L2.St} {H : Hp} {D : Ends} {K : PySem.W.Frag} {g : TG} {tb : TS} {a : Addr} {xs : List V} (Pv : Nat → L2.St → Hp → Prop) (h0 : Pv 0 σ H) (hl : ∀ i σ H, i ≤ xs.length → Pv i σ H → SqL K H a xs)
    (hs : ∀ i x T σ H H', i < xs.length → xs[i]? = some x → Pv i σ H → H T = none → Sm H H' → H' T = some (.tup [.int (i : Nat), x]) → g (.ref T) σ H' fun σ2 H2 => tb (En (Pv (i + 1)) (RT D) (NX D) (Pv (i + 1))) σ2 H2)
    (hd : ∀ σ H, Pv xs.length σ H → NX D σ H) : Loop (Ite K a) g tb D σ H :=
  for_it walk_enum Pv h0 hl (fun i x σ H H' hi p y => by
    obtain ⟨T, u, v, rfl, hT, rfl, h1, h2⟩ := y
    cases h1
    exact hs i v T σ H _ hi h2 p hT (sm_new hT) upd_same) hd
theorem lcEn {σ : L2.St} {H : Hp} {Q : VK} {K : PySem.W.Frag} {g : TG} {tt : TT} {te : TE} {vs : List Nat} {a : Addr} {xs : List V} (Pv : Addr → Nat → Hp → Prop) (h0 : ∀ D H', H D = none → Sm H H' → H' D = some (.lst []) → Pv D 0 H')
    (hl : ∀ D i H', H D = none → i ≤ xs.length → Pv D i H' → SqL K H' a xs)
    (hs : ∀ D i x T H1 H', H D = none → i < xs.length → xs[i]? = some x → Pv D i H1 → H1 T = none → Sm H1 H' → H' T = some (.tup [.int (i : Nat), x]) → g (.ref T) (wipe σ vs) H' fun σ2 H2 => LcGo vs σ σ2 (tt σ2 H2 fun b H3 => if b = true then te σ2 H3 fun y H4 => LcEnd D y (Pv D (i + 1)) H4 else Pv D (i + 1) H3))
    (hd : ∀ D H', H D = none → Pv D xs.length H' → Q (.ref D) H') : LcL (Ite K a) g tt te vs σ H Q := fun D hD =>
  lc_it walk_enum (Pv D) (h0 D _ hD (sm_new hD) upd_same) (fun i H' hi p => hl D i H' hD hi p) (fun i x H1 H' hi p y => by
    obtain ⟨T, u, v, rfl, hT, rfl, h1, h2⟩ := y
    cases h1
    exact hs D i v T H1 _ hD hi h2 p hT (sm_new hT) upd_same) (fun H' p => hd D H' hD p)
local macro_rules | `(tactic| tm_at "rs") => `(tactic| first | with_reducible refine w_iEn ?_ | ((with_reducible refine' w_iEne ?h ?k); (case h => tm_at "rsq")) | fail "no")

/-! figures to a number -/
def hrn (b : Int) : List Int → Int
  | [] => 0
  | x :: l => hrn b l * b + x
theorem hrn_app (b : Int) (x : Int) : ∀ l : List Int, hrn b (l ++ [x]) = hrn b l + x * b ^ l.length
  | [] => by
    show 0 * b + x = 0 + x * b ^ 0
    rw [Int.zero_mul, Int.pow_zero, Int.mul_one]
  | y :: l => by
    show hrn b (l ++ [x]) * b + y = hrn b l * b + y + x * b ^ (l.length + 1)
    rw [hrn_app b x l, Int.add_mul, Int.mul_assoc, ← Int.pow_succ, Int.add_right_comm]
theorem hrn_bd {b : Int} (hb : b.natAbs < 2 ^ 41) : ∀ l : List Int, (∀ n ∈ l, n.natAbs < 2 ^ 2000) → (hrn b l).natAbs < 2 ^ (2000 + 42 * l.length)
  | [], _ => Nat.two_pow_pos _
  | x :: l, h => by
    have h1 := hrn_bd hb l (fun n hn => h n (List.mem_cons_of_mem _ hn))
    have h2 := h x List.mem_cons_self
    have h3 : (hrn b l * b + x).natAbs ≤ (hrn b l).natAbs * b.natAbs + x.natAbs := by
      have := Int.natAbs_add_le (hrn b l * b) x
      rw [Int.natAbs_mul] at this
      exact this
    have h4 : (hrn b l).natAbs * b.natAbs < 2 ^ (2000 + 42 * l.length) * 2 ^ 41 := Nat.mul_lt_mul'' h1 hb
    have h5 : 2 ^ 2000 ≤ 2 ^ (2000 + 42 * l.length) * 2 ^ 41 := by
      rw [← Nat.pow_add]
      exact Nat.pow_le_pow_right (by decide) (by omega)
    have h6 : 2 ^ (2000 + 42 * (x :: l).length) = 2 ^ (2000 + 42 * l.length) * 2 ^ 41 + 2 ^ (2000 + 42 * l.length) * 2 ^ 41 := by
      rw [← Nat.pow_add, show 2000 + 42 * (x :: l).length = (2000 + 42 * l.length + 41) + 1 by rw [List.length_cons]; omega, Nat.pow_succ, Nat.mul_two]
    show (hrn b l * b + x).natAbs < _
    rw [h6]
    generalize 2 ^ (2000 + 42 * l.length) * 2 ^ 41 = A at *
    generalize (2 : Nat) ^ 2000 = B at *
    omega
theorem bpow_bd {b : Int} (hb : b.natAbs < 2 ^ 41) (i : Nat) : (b ^ i).natAbs < 2 ^ (41 * i + 1) := by
  rw [Int.natAbs_pow, Nat.pow_succ, Nat.pow_mul]
  have h := Nat.pow_le_pow_left (Nat.le_of_lt hb) i
  have h2 : 0 < (2 ^ 41 : Nat) ^ i := Nat.pow_pos (by decide)
  omega
theorem hrn_drop {b : Int} {ns : List Int} {i : Nat} {m : Int} (hi : i < ns.length) (h : ns[ns.length - 1 - i]? = some m) : hrn b (ns.drop (ns.length - (i + 1))) = hrn b (ns.drop (ns.length - i)) * b + m := by
  obtain ⟨h1, h2⟩ := List.getElem?_eq_some_iff.mp h
  have e : ns.length - (i + 1) = ns.length - 1 - i := by omega
  rw [e, List.drop_eq_getElem_cons h1, h2, show ns.length - 1 - i + 1 = ns.length - i by omega]
  rfl
theorem hrn_take {b : Int} {ns : List Int} {i : Nat} {m : Int} (h : ns[i]? = some m) : hrn b (ns.take (i + 1)) = hrn b (ns.take i) + m * b ^ i := by
  obtain ⟨h1, h2⟩ := List.getElem?_eq_some_iff.mp h
  rw [List.take_succ, h]
  show hrn b (ns.take i ++ [m]) = _
  rw [hrn_app, List.length_take, Nat.min_eq_left (Nat.le_of_lt h1)]
theorem ints_at {ns : List Int} {i : Nat} {x : V} (h : (ns.map V.int)[i]? = some x) : ∃ m, ns[i]? = some m ∧ x = V.int m := by
  rw [List.getElem?_map] at h
  cases e : ns[i]? with
  | none => rw [e] at h; cases h
  | some m => rw [e] at h; cases h; exact ⟨m, rfl, rfl⟩
/-! a walk backwards -/
def RvE (K : PySem.W.Frag) (R : It → Hp → Prop) (v : V) (H1 : Hp) : Prop := ∃ (a : Addr) (xs : List V), v = .ref a ∧ ((SqL K H1 a xs ∧ R (Itv K a xs.length) H1) ∨ (SqT K H1 a xs ∧ R (_root_.RT.ItvT K a xs.length) H1))
theorem w_iRv {K : PySem.W.Frag} {σ : L2.St} {H : Hp} {te : TE} {R : It → Hp → Prop} (k : te σ H fun v H1 => RvE K R v H1) : _root_.RT.iRevA K te σ H R := k
theorem walk_revT {K : PySem.W.Frag} {a : Addr} {xs : List V} : Walk (_root_.RT.ItvT K a xs.length) xs.length (fun H => SqT K H a xs) (fun i H x H' => H' = H ∧ xs[xs.length - 1 - i]? = some x) :=
  ⟨fun i H hi h => ⟨hi, xs, _, h, List.getElem?_eq_getElem (by omega)⟩, fun H h => Nat.le_refl _, fun i H x H' hi h y => ⟨y.1, y.2 xs h⟩⟩
theorem loopVL {σ : L2.St} {H : Hp} {D : Ends} {K : PySem.W.Frag} {g : TG} {tb : TS} {a : Addr} {xs : List V} (Pv : Nat → L2.St → Hp → Prop) (h0 : Pv 0 σ H) (hl : ∀ i σ H, i ≤ xs.length → Pv i σ H → SqL K H a xs)
    (hs : ∀ i x σ H, i < xs.length → xs[xs.length - 1 - i]? = some x → Pv i σ H → g x σ H fun σ2 H2 => tb (En (Pv (i + 1)) (RT D) (NX D) (Pv (i + 1))) σ2 H2) (hd : ∀ σ H, Pv xs.length σ H → NX D σ H) : Loop (Itv K a xs.length) g tb D σ H :=
  for_it walk_rev Pv h0 hl (fun i x σ H H' hi p y => by obtain ⟨rfl, e⟩ := y; exact hs i x σ _ hi e p) hd
theorem loopVT {σ : L2.St} {H : Hp} {D : Ends} {K : PySem.W.Frag} {g : TG} {tb : TS} {a : Addr} {xs : List V} (Pv : Nat → L2.St → Hp → Prop) (h0 : Pv 0 σ H) (hl : ∀ i σ H, i ≤ xs.length → Pv i σ H → SqT K H a xs)
    (hs : ∀ i x σ H, i < xs.length → xs[xs.length - 1 - i]? = some x → Pv i σ H → g x σ H fun σ2 H2 => tb (En (Pv (i + 1)) (RT D) (NX D) (Pv (i + 1))) σ2 H2) (hd : ∀ σ H, Pv xs.length σ H → NX D σ H) : Loop (_root_.RT.ItvT K a xs.length) g tb D σ H :=
  for_it walk_revT Pv h0 hl (fun i x σ H H' hi p y => by obtain ⟨rfl, e⟩ := y; exact hs i x σ _ hi e p) hd
theorem w_rep1 {H : Hp} {Q : VK} {l : Addr} {m j : Int} (h : H l = some (.lst [.int m])) (h0 : 0 ≤ j) (h1 : j ≤ 1000) (k : ∀ p H', H p = none → Sm H H' → H' p = some (.lst ((List.replicate j.toNat m).map V.int)) → Q (.ref p) H') : gMul (.ref l) (.int j) H Q := by
  refine .inr (.inr ⟨l, j, _, rfl, rfl, h, by omega, by omega, sz_of ?_, fun p hp => k p _ hp (sm_new hp) ?_⟩)
  · show 1 * j.toNat ≤ _
    omega
  · rw [upd_same, List.map_replicate, List.flatten_replicate_singleton]
theorem w_addInts {K : PySem.W.Frag} {H : Hp} {Q : VK} {l m : Addr} {ns ms : List Int} (h1 : H l = some (.lst (ns.map V.int))) (h2 : H m = some (.lst (ms.map V.int))) (z : ns.length + ms.length ≤ 1000) (k : ∀ p H', H p = none → Sm H H' → H' p = some (.lst ((ns ++ ms).map V.int)) → Q (.ref p) H') :
    gAdd K (.ref l) (.ref m) H Q := w_addL h1 h2 (sz_of (by rw [List.length_map, List.length_map]; omega)) fun p H' a b c => k p H' a b (by rw [List.map_append]; exact c)
theorem w_ix4P {K : PySem.W.Frag} {H : Hp} {Q : VK} {i : Int} {p : Addr} {x0 x1 x2 x3 : Int} (h : SqL K H p [.int x0, .int x1, .int x2, .int x3]) (h0 : 1 ≤ i) (h1 : i < 4) (k : ∀ z : Int, z = x1 ∨ z = x2 ∨ z = x3 → Q (.int z) H) : rIx K (.ref p) (.int i) H Q := by
  rcases (show i = 1 ∨ i = 2 ∨ i = 3 by omega) with rfl | rfl | rfl
  · exact w_ixL' h (atI_nat (j := 1) rfl) (k _ (by omega))
  · exact w_ixL' h (atI_nat (j := 2) rfl) (k _ (by omega))
  · exact w_ixL' h (atI_nat (j := 3) rfl) (k _ (by omega))
theorem w_gLstL {K : PySem.W.Frag} {H : Hp} {Q : VK} {p : Addr} {ys : List V} (h : SqL K H p ys) (k : ∀ l H', H l = none → Sm H H' → H' l = some (.lst ys) → Q (.ref l) H') : gLst K [.ref p] H Q := ⟨p, ys, rfl, .inl h, fun l hl => k l _ hl (sm_new hl) upd_same⟩
theorem w_gTplL {K : PySem.W.Frag} {H : Hp} {Q : VK} {p : Addr} {ys : List V} (h : SqL K H p ys) (k : ∀ l H', H l = none → Sm H H' → H' l = some (.tup ys) → Q (.ref l) H') : gTpl K [.ref p] H Q := ⟨p, ys, rfl, .inl ⟨h, fun l hl => k l _ hl (sm_new hl) upd_same⟩⟩
theorem dp_ints {K : PySem.W.Frag} {H : Hp} : ∀ ns : List Int, DpAll K H (ns.map V.int) (ns.map PyData.int)
  | [] => .nil
  | n :: ns => .cons (.int n) (dp_ints ns)
theorem w_neInts {K : PySem.W.Frag} {H : Hp} {Q : VK} {a b : Addr} {ns : List Int} (h1 : SqL K H a (ns.map V.int)) (h2 : SqL K H b (ns.map V.int)) (k : Q (.bl false) H) : gNe K (.ref a) (.ref b) H Q := by
  refine .inr ⟨.list (ns.map .int), .list (ns.map .int), .lst h1 (dp_ints ns), .lst h2 (dp_ints ns), PySem.W.ke_shaped_ints ns, PySem.W.ke_shaped_ints ns, ?_⟩
  have e : PyData.eqv (.list (ns.map .int)) (.list (ns.map .int)) = true := by
    rw [PyData.eqv, PySem.W.ked_eqvAll]
    exact decide_eq_true rfl
  rw [e]
  exact k
local macro_rules | `(tactic| tm_at "rs") => `(tactic| first | ((with_reducible refine' w_gLstL ?h (fun _ _ _ _ _ => ?k)); (case h => tm_at "rsq")) | fail "no")
local macro_rules | `(tactic| tm_at "rs") => `(tactic| first | ((with_reducible refine' w_gTplL ?h (fun _ _ _ _ _ => ?k)); (case h => tm_at "rsq")) | fail "no")
local macro_rules | `(tactic| tm_at "rs") => `(tactic| first | ((with_reducible refine' w_neInts ?h ?i ?k); (case h => tm_at "rsq"); (case i => tm_at "rsq")) | fail "no")
local macro_rules | `(tactic| tm_at "rs") => `(tactic| first | ((with_reducible refine' w_rep1 ?h ?i ?j (fun _ _ _ _ _ => ?k)); (case h => tm_at "rlk"); (case i => omega); (case j => omega)) | fail "no")
local macro_rules | `(tactic| tm_at "rs") => `(tactic| first | ((with_reducible refine' w_addInts ?h ?i ?z (fun _ _ _ _ _ => ?k)); (case h => tm_at "rlk"); (case i => tm_at "rlk"); (case z => (simp only [List.length_append, List.length_replicate]; omega))) | fail "no")
local macro_rules | `(tactic| tm_at "rs") => `(tactic| first | ((with_reducible refine' w_ix4P ?h ?a ?b (fun _ _ => ?k)); (case h => tm_at "rsq"); (case a => omega); (case b => omega)) | fail "no")
local macro_rules | `(tactic| tm_at "rs") => `(tactic| with_reducible refine w_iRv ?_)

/-! terms: nested pairs and triples -/
inductive Tm where
  | num (n : Nat)
  | name (s : Str)
  | op (w : Str) (a b : Tm)
def Tm.dep : Tm → Nat
  | .num _ => 0
  | .name _ => 0
  | .op _ a b => max a.dep b.dep + 1
def Tm.wt : Tm → Nat
  | .num _ => 1
  | .name _ => 1
  | .op _ a b => a.wt + b.wt + 2
theorem Tm.wt_pos : ∀ t : Tm, 1 ≤ t.wt
  | .num _ => Nat.le_refl _
  | .name _ => Nat.le_refl _
  | .op _ a b => by
    show 1 ≤ a.wt + b.wt + 2
    omega
def TmAt (K : PySem.W.Frag) (H : Hp) : Tm → V → Prop
  | .num n, v => ∃ p, v = .ref p ∧ TpK K H p [.str "num", .int (n : Int)]
  | .name s, v => ∃ p, v = .ref p ∧ TpK K H p [.str "name", .str s]
  | .op w a b, v => ∃ p x y, v = .ref p ∧ TpK K H p [.str w, x, y] ∧ TmAt K H a x ∧ TmAt K H b y
theorem TmAt.imp {K : PySem.W.Frag} {H H' : Hp} (h : Tk H H') : ∀ {t : Tm} {v : V}, TmAt K H t v → TmAt K H' t v
  | .num n, v, ⟨p, e, q⟩ => ⟨p, e, q.imp h⟩
  | .name s, v, ⟨p, e, q⟩ => ⟨p, e, q.imp h⟩
  | .op w a b, v, ⟨p, x, y, e, q, r1, r2⟩ => ⟨p, x, y, e, q.imp h, TmAt.imp h r1, TmAt.imp h r2⟩
theorem TmAt.tk {K : PySem.W.Frag} {H H' : Hp} {t : Tm} {v : V} (r : TmAt K H t v) (e : Tk H H') : TmAt K H' t v := r.imp e
theorem TmAt.sm {K : PySem.W.Frag} {H H' : Hp} {t : Tm} {v : V} (r : TmAt K H t v) (e : Sm H H') : TmAt K H' t v := r.imp (Tk.sm e)
theorem TmAt.kpL {K : PySem.W.Frag} {H H' : Hp} {t : Tm} {v : V} {b : Addr} {ys : List V} (r : TmAt K H t v) (hb : H b = some (.lst ys)) (e : Kp b H H') : TmAt K H' t v := r.imp (Tk.kp hb e)
theorem TmAt.kpD {K : PySem.W.Frag} {H H' : Hp} {t : Tm} {v : V} {b : Addr} {ys : List (Key × V)} (r : TmAt K H t v) (hb : H b = some (.dK ys)) (e : Kp b H H') : TmAt K H' t v := r.imp (Tk.kd hb e)
theorem tm_num {K : PySem.W.Frag} {H : Hp} {p : Addr} {n : Nat} (h : H p = some (.tup [.str "num", .int (n : Int)])) : TmAt K H (.num n) (.ref p) := ⟨p, rfl, .inl h⟩
theorem tm_name {K : PySem.W.Frag} {H : Hp} {p : Addr} {s : Str} (h : H p = some (.tup [.str "name", .str s])) : TmAt K H (.name s) (.ref p) := ⟨p, rfl, .inl h⟩
theorem tm_op {K : PySem.W.Frag} {H : Hp} {p : Addr} {w : Str} {x y : V} {a b : Tm} (h : H p = some (.tup [.str w, x, y])) (ha : TmAt K H a x) (hb : TmAt K H b y) : TmAt K H (.op w a b) (.ref p) := ⟨p, x, y, rfl, .inl h, ha, hb⟩
def cm (w : Str) (x y : Nat) : Nat := if w = "plus" then x + y else if w = "times" then x * y else x ^ y
def ev (g : Str → Nat) : Tm → Nat
  | .num n => n
  | .name s => g s
  | .op w a b => cm w (ev g a) (ev g b)
def PwOk (x y n : Nat) : Prop := y * (n - 1) < 1000000 ∧ ∃ r : Nat, x ^ y < 2 ^ r ∧ r ≤ 1000000
theorem pw_of {x y n : Nat} (hx : x < 2 ^ n) (n1 : 1 ≤ n) (h : n * y ≤ 1000000) : PwOk x y n := by
  rcases Nat.eq_zero_or_pos y with h0 | h0
  · subst h0
    refine ⟨by omega, 1, ?_, by decide⟩
    rw [Nat.pow_zero]
    decide
  · refine ⟨?_, n * y, ?_, h⟩
    · rw [Nat.mul_comm] at h
      rw [Nat.mul_sub, Nat.mul_one]
      have := Nat.le_mul_of_pos_right y (show 0 < n by omega)
      omega
    · rw [Nat.pow_mul]
      exact Nat.pow_lt_pow_left hx (by omega)
def CmOk (w : Str) (x y : Nat) : Prop := ∃ n : Nat, 1 ≤ n ∧ x < 2 ^ n ∧ ((w = "plus" ∧ y < 2 ^ n ∧ n + 1 ≤ 1000000) ∨ (w = "times" ∧ ∃ m : Nat, y < 2 ^ m ∧ n + m ≤ 1000000) ∨ (w ≠ "plus" ∧ w ≠ "times" ∧ PwOk x y n))
def TmOk (kvs : List (Key × V)) (g : Str → Nat) : Tm → Prop
  | .num n => ∃ m : Nat, n < 2 ^ m ∧ m ≤ 1000000
  | .name s => valV kvs (.inr s) = some (.int (g s : Nat)) ∧ ∃ m : Nat, g s < 2 ^ m ∧ m ≤ 1000000
  | .op w a b => w ≠ "num" ∧ w ≠ "name" ∧ TmOk kvs g a ∧ TmOk kvs g b ∧ CmOk w (ev g a) (ev g b)
/-! fields of an own object -/
def FldE (K : PySem.W.Frag) (f : Str) (Q : VK) (x : V) (H1 : Hp) : Prop := ∃ (a C dx : Addr) (fs : List (Str × V)) (v : V), x = .ref a ∧ H1 a = some (.ins C dx fs) ∧ Cls K C ∧ NoAttr K C f ∧ fs.lookup f = some v ∧ Q v H1
theorem w_fld {K : PySem.W.Frag} {f : Str} {σ : L2.St} {H : Hp} {Q : VK} {ta : TE} (k : ta σ H fun x H1 => FldE K f Q x H1) : tFld K ta f σ H Q := k
def SFldE (K : PySem.W.Frag) (f : Str) (D : Ends) (σ : L2.St) (x y : V) (H2 : Hp) : Prop := ∃ (a C dx : Addr) (fs : List (Str × V)), x = .ref a ∧ H2 a = some (.ins C dx fs) ∧ Cls K C ∧ NoAttr K C f ∧ fs.length < 1000 ∧ D.nx σ (upd H2 a (.ins C dx (putF f y fs)))
theorem w_sfld {K : PySem.W.Frag} {f : Str} {D : Ends} {σ : L2.St} {H : Hp} {ta tv : TE} (k : tv σ H fun y H1 => ta σ H1 fun x H2 => SFldE K f D σ x y H2) : sFld K ta tv f D σ H := k
theorem w_sfldE {K : PySem.W.Frag} {f : Str} {D : Ends} {σ : L2.St} {y : V} {H : Hp} {a C dx : Addr} {fs : List (Str × V)} (h : H a = some (.ins C dx fs)) (c : Cls K C) (n : NoAttr K C f) (l : fs.length < 1000) (k : ∀ H', Kp a H H' → H' a = some (.ins C dx (putF f y fs)) → NX D σ H') : SFldE K f D σ (.ref a) y H :=
  ⟨a, C, dx, fs, rfl, h, c, n, l, k _ kp_upd upd_same⟩
/-! a dict's items -/
def DgE (Q : VK) (x y : V) (H2 : Hp) : Prop := ∃ a v, x = .ref a ∧ DGet H2 a y (some v) ∧ Q v H2
theorem w_dg {td ty : TE} {σ : L2.St} {H : Hp} {Q : VK} (k : td σ H fun x H1 => ty σ H1 fun y H2 => DgE Q x y H2) : tDGet td ty σ H Q := k
theorem w_dge {H : Hp} {Q : VK} {a : Addr} {s : Str} {v : V} {kvs : List (Key × V)} (h : H a = some (.dK kvs)) (e : valV kvs (.inr s) = some v) (k : Q v H) : DgE Q (.ref a) (.str s) H := ⟨a, v, rfl, .inl ⟨kvs, .inr s, .inl h, rfl, e.symm⟩, k⟩
def DpE (D : Ends) (σ : L2.St) (v x y : V) (H3 : Hp) : Prop := ∃ a H4, x = .ref a ∧ DPut H3 a y v H4 ∧ D.nx σ H4
theorem w_dp {td ty tv : TE} {D : Ends} {σ : L2.St} {H : Hp} (k : tv σ H fun v H1 => td σ H1 fun x H2 => ty σ H2 fun y H3 => DpE D σ v x y H3) : sDPut td ty tv D σ H := k
theorem w_dpe {D : Ends} {σ : L2.St} {H : Hp} {a : Addr} {s : Str} {v : V} {kvs : List (Key × V)} (h : H a = some (.dK kvs)) (l : kvs.length < sizeLine) (k : ∀ H', Kp a H H' → H' a = some (.dK (putK kvs (.inr s) v)) → NX D σ H') : DpE D σ v (.ref a) (.str s) H :=
  ⟨a, _, rfl, .inl ⟨kvs, .inr s, h, rfl, l, rfl⟩, k _ kp_upd upd_same⟩
theorem w_dnew {σ : L2.St} {H : Hp} {Q : VK} (k : ∀ p H', H p = none → Sm H H' → H' p = some (.dK []) → Q (.ref p) H') : tDNewK σ H Q := fun p hp => k p _ hp (sm_new hp) upd_same
def NiE (K : PySem.W.Frag) (w : World) (Q : VK) (y x : V) (H2 : Hp) : Prop := ∃ a z v, x = .ref a ∧ y = .str z ∧ (a == sysModules) = false ∧ KDct K w a z v ∧ Q (.bl false) H2
theorem w_ni {K : PySem.W.Frag} {w : World} {ty td : TE} {σ : L2.St} {H : Hp} {Q : VK} (k : ty σ H fun y H1 => td σ H1 fun x H2 => NiE K w Q y x H2) : tNiK K w ty td σ H Q := k
theorem w_nie {K : PySem.W.Frag} {w : World} {Q : VK} {H : Hp} {a : Addr} {z : Str} {ks : List Str} (d : KDs K w a ks) (hz : z ∈ ks) (k : Q (.bl false) H) : NiE K w Q (.str z) (.ref a) H := by
  obtain ⟨v, hv⟩ := d.2 z hz
  exact ⟨a, z, v, rfl, rfl, d.1, hv, k⟩
/-! an own object made -/
def MkE (C : Addr) (sp : Sp) (Q : VK) (E : XK) (vs : List V) (H1 : Hp) : Prop := ∀ x dx, H1 x = none → H1 dx = none → dx ≠ x → sp (.ref x :: (vs ++ [])) (upd (upd H1 dx (.own x)) x (.ins C dx [])) (fun v H2 => v = .non ∧ Q (.ref x) H2) E
theorem w_make {C : Addr} {sp : Sp} {σ : L2.St} {H : Hp} {Q : VK} {E : XK} {t : TA} (k : t σ H fun vs H1 => MkE C sp Q E vs H1) : tMake C sp [] E t σ H Q := k
/-! the last of a list taken, lists made longer -/
theorem w_bm0 {K : PySem.W.Frag} {T : String} {r : V → List V → Hp → VK → Prop} {to : TE} {σ : L2.St} {H : Hp} {Q : VK} (k : to σ H fun x H1 => tyV K T x H1 ∧ r x [] H1 Q) : tBM0 K T r to σ H Q := k
theorem w_pop {K : PySem.W.Frag} {H : Hp} {Q : VK} {l : Addr} {xs : List V} {y : V} (h : H l = some (.lst (xs ++ [y]))) (k : ∀ H', Kp l H H' → H' l = some (.lst xs) → Q y H') : tyV K "list" (.ref l) H ∧ rPop (.ref l) [] H Q := by
  refine ⟨ty_list h, l, _, y, rfl, rfl, h, ?_, k _ kp_upd ?_⟩
  · rw [List.length_append, List.getElem?_append_right (by show xs.length ≤ xs.length + 1 - 1; omega)]
    show [y][xs.length + 1 - 1 - xs.length]? = some y
    rw [show xs.length + 1 - 1 - xs.length = 0 by omega]
    rfl
  · rw [upd_same, List.dropLast_concat]
theorem w_ext {H : Hp} {Q : VK} {l b : Addr} {xs zs : List V} (h : H l = some (.lst xs)) (hb : H b = some (.lst zs)) (z : xs.length + zs.length ≤ sizeLine) (k : ∀ H', Kp l H H' → H' l = some (.lst (xs ++ zs)) → Q .non H') : rExtend (.ref l) [.ref b] H Q :=
  ⟨l, b, xs, zs, rfl, rfl, h, hb, z, k _ kp_upd upd_same⟩
local macro_rules | `(tactic| tm_at "rs") => `(tactic| first | with_reducible refine w_fld ?_ | with_reducible refine w_sfld ?_ | with_reducible refine w_dg ?_ | ((with_reducible refine' w_dge ?h ?e ?k); (case h => tm_at "rlk"); (case e => assumption)) | with_reducible refine w_dp ?_ | ((with_reducible refine' w_dpe ?h ?l (fun _ _ _ => ?k)); (case h => tm_at "rlk"); (case l => tm_at "rsz")) | with_reducible refine w_dnew (fun _ _ _ _ _ => ?_) | with_reducible refine w_ni ?_ | with_reducible refine w_make ?_ | with_reducible refine w_bm0 ?_ | ((with_reducible refine' w_pop ?h (fun _ _ _ => ?k)); (case h => tm_at "rlk")) | ((with_reducible refine' w_ext ?h ?i ?z (fun _ _ _ => ?k)); (case h => tm_at "rlk"); (case i => tm_at "rlk"); (case z => tm_at "rsz")) | fail "no")

/-! bits of ints that are not negative -/
theorem and_nn {a b : Nat} : Builtin.bitAnd (a : Int) (b : Int) = ((a &&& b : Nat) : Int) := by
  have h := bitAnd_pp (Int.natCast_nonneg a) (Int.natCast_nonneg b)
  rw [Int.toNat_natCast, Int.toNat_natCast] at h
  exact h
theorem and_one {i : Int} (h : 0 ≤ i) : Builtin.bitAnd i 1 = i % 2 := by
  obtain ⟨n, rfl⟩ := Int.eq_ofNat_of_zero_le h
  have e := @and_nn n 1
  rw [show ((1 : Nat) : Int) = 1 from rfl] at e
  rw [e, Nat.and_one_is_mod]
  omega

/-! bits of a number: how many, which -/
theorem and_mod2 {a b : Nat} (h : b % 2 = 0) : (a &&& b) % 2 = 0 := by
  have e : (a &&& b).testBit 0 = (a.testBit 0 && b.testBit 0) := Nat.testBit_and ..
  rw [Nat.testBit_zero, Nat.testBit_zero, Nat.testBit_zero] at e
  rw [decide_eq_false (show ¬ b % 2 = 1 by omega), Bool.and_false] at e
  have := of_decide_eq_false e
  omega
def pc : Nat → Nat
  | 0 => 0
  | n + 1 => (n + 1) % 2 + pc ((n + 1) / 2)
termination_by n => n
decreasing_by omega
theorem pc_eq (n : Nat) : pc n = n % 2 + pc (n / 2) := by
  cases n with
  | zero => rw [pc]
  | succ n => rw [pc]
theorem pc_and (n : Nat) (h : 0 < n) : pc (n &&& (n - 1)) + 1 = pc n := by
  induction n using Nat.strongRecOn with
  | ind n ih =>
    have hd : (n &&& (n - 1)) / 2 = n / 2 &&& (n - 1) / 2 := Nat.and_div_two
    by_cases ho : n % 2 = 1
    · rw [pc_eq (n &&& (n - 1)), pc_eq n, and_mod2 (show (n - 1) % 2 = 0 by omega), hd, show (n - 1) / 2 = n / 2 by omega, Nat.and_self, ho]
      omega
    · have hm : (n &&& (n - 1)) % 2 = 0 := by rw [Nat.and_comm]; exact and_mod2 (by omega)
      have := ih (n / 2) (by omega) (by omega)
      rw [pc_eq (n &&& (n - 1)), pc_eq n, hm, hd, show (n - 1) / 2 = n / 2 - 1 by omega]
      omega
def bpos (n i : Nat) : List Nat := (List.range i).filter n.testBit
theorem bpos_succ (n i : Nat) : bpos n (i + 1) = (if n % 2 = 1 then [0] else []) ++ (bpos (n / 2) i).map Nat.succ := by
  unfold bpos
  rw [List.range_succ_eq_map, List.filter_cons, List.filter_map, Nat.testBit_zero]
  have e : (fun t => n.testBit t) ∘ Nat.succ = (n / 2).testBit := by
    funext t
    show n.testBit (t + 1) = _
    rw [Nat.testBit_succ]
  rw [show (n.testBit ∘ Nat.succ) = (n / 2).testBit from e]
  by_cases h : n % 2 = 1
  · rw [if_pos h, if_pos (decide_eq_true h)]; rfl
  · rw [if_neg h, if_neg (by rw [decide_eq_false h]; decide)]; rfl
theorem bpos_len : ∀ (i n : Nat), n < 2 ^ i → (bpos n i).length = pc n
  | 0, n, h => by
    rw [Nat.pow_zero] at h
    rw [show n = 0 by omega, pc]; rfl
  | i + 1, n, h => by
    rw [Nat.pow_succ] at h
    rw [bpos_succ, List.length_append, List.length_map, bpos_len i (n / 2) (by omega), pc_eq n]
    by_cases h : n % 2 = 1
    · rw [if_pos h, h]; rfl
    · rw [if_neg h, show n % 2 = 0 by omega]; rfl
def psm (l : List Nat) : Nat := (l.map fun t => 2 ^ t).sum
theorem psm_succ : ∀ l : List Nat, psm (l.map Nat.succ) = 2 * psm l
  | [] => rfl
  | x :: l => by
    have h := psm_succ l
    unfold psm at h ⊢
    rw [List.map_cons, List.map_cons, List.map_cons, List.sum_cons, List.sum_cons, h, Nat.mul_add]
    show 2 ^ (x + 1) + _ = _
    rw [Nat.pow_succ, Nat.mul_comm]
theorem bpos_sum : ∀ (i n : Nat), n < 2 ^ i → psm (bpos n i) = n
  | 0, n, h => by
    rw [Nat.pow_zero] at h
    rw [show n = 0 by omega]; rfl
  | i + 1, n, h => by
    rw [Nat.pow_succ] at h
    have e : psm (bpos n (i + 1)) = (if n % 2 = 1 then 1 else 0) + psm ((bpos (n / 2) i).map Nat.succ) := by
      rw [bpos_succ]
      unfold psm
      rw [List.map_append, List.sum_append]
      congr 1
      by_cases h : n % 2 = 1
      · rw [if_pos h, if_pos h]; rfl
      · rw [if_neg h, if_neg h]; rfl
    rw [e, psm_succ, bpos_sum i (n / 2) (by omega)]
    by_cases h : n % 2 = 1
    · rw [if_pos h]; omega
    · rw [if_neg h]; omega
theorem bpos_step (n i : Nat) : bpos n (i + 1) = bpos n i ++ (if n / 2 ^ i % 2 = 1 then [i] else []) := by
  unfold bpos
  rw [List.range_succ, List.filter_append, List.filter_cons]
  congr 1
  have e : n.testBit i = decide (n / 2 ^ i % 2 = 1) := Nat.testBit_eq_decide_div_mod_eq
  rw [e]
  by_cases h : n / 2 ^ i % 2 = 1
  · rw [if_pos h, if_pos (decide_eq_true h)]; rfl
  · rw [if_neg h, if_neg (by rw [decide_eq_false h]; decide)]; rfl

/-! choosing numbers -/
def ch : Nat → Nat → Nat
  | _, 0 => 1
  | 0, _ + 1 => 0
  | n + 1, k + 1 => ch n k + ch n (k + 1)
theorem ch_zero (n : Nat) : ch n 0 = 1 := by cases n <;> rfl
theorem ch_succ (n k : Nat) : ch (n + 1) (k + 1) = ch n k + ch n (k + 1) := rfl
theorem ch_gt : ∀ (n k : Nat), n < k → ch n k = 0
  | 0, k + 1, _ => rfl
  | n + 1, k + 1, h => by rw [ch_succ, ch_gt n k (by omega), ch_gt n (k + 1) (by omega)]
theorem ch_self : ∀ n : Nat, ch n n = 1
  | 0 => rfl
  | n + 1 => by rw [ch_succ, ch_self n, ch_gt n (n + 1) (by omega)]
/-- (k + 1) C(n + 1, k + 1) = (n + 1) C(n, k) -/
theorem ch_mul : ∀ (n k : Nat), (k + 1) * ch (n + 1) (k + 1) = (n + 1) * ch n k
  | 0, 0 => rfl
  | 0, k + 1 => by rw [ch_succ, show ch 0 (k + 1) = 0 from rfl, show ch 0 (k + 1 + 1) = 0 from rfl]; omega
  | n + 1, 0 => by
    have h := ch_mul n 0
    rw [ch_zero] at h
    rw [ch_succ (n + 1) 0, ch_zero]
    omega
  | n + 1, k + 1 => by
    have h1 := ch_mul n k
    have h2 := ch_mul n (k + 1)
    have e1 := ch_succ (n + 1) (k + 1)
    have e2 := ch_succ n k
    rw [e1, Nat.mul_add, h2, show (k + 1 + 1) * ch (n + 1) (k + 1) = (k + 1) * ch (n + 1) (k + 1) + ch (n + 1) (k + 1) by rw [Nat.add_mul (k + 1) 1, Nat.one_mul], h1]
    rw [show (n + 1 + 1) * ch (n + 1) (k + 1) = (n + 1) * ch (n + 1) (k + 1) + ch (n + 1) (k + 1) by rw [Nat.add_mul (n + 1) 1, Nat.one_mul], e2, Nat.mul_add]
    omega
/-- (k + 1) C(n, k + 1) = (n - k) C(n, k) -/
theorem ch_next {n k : Nat} (h : k ≤ n) : (k + 1) * ch n (k + 1) = (n - k) * ch n k := by
  have h1 := ch_mul n k
  rw [ch_succ, Nat.mul_add] at h1
  have h2 : (n + 1) * ch n k = (k + 1) * ch n k + (n - k) * ch n k := by
    rw [← Nat.add_mul]
    congr 1
    omega
  omega
theorem ch_symm : ∀ (n k : Nat), k ≤ n → ch n k = ch n (n - k)
  | 0, 0, _ => rfl
  | n + 1, 0, _ => by rw [ch_zero, Nat.sub_zero, ch_self]
  | n + 1, k + 1, h => by
    by_cases hk : k = n
    · subst hk
      rw [ch_self, Nat.sub_self, ch_zero]
    · have e : n + 1 - (k + 1) = (n - (k + 1)) + 1 := by omega
      rw [e, ch_succ, ch_succ, ch_symm n k (by omega), ch_symm n (k + 1) (by omega), show n - k = n - (k + 1) + 1 by omega]
      omega
theorem ch_pos : ∀ (n k : Nat), k ≤ n → 0 < ch n k
  | _, 0, _ => by rw [ch_zero]; decide
  | n + 1, k + 1, h => by rw [ch_succ]; have := ch_pos n k (by omega); omega
/-- the product of j numbers from n down -/
def desc (n : Nat) : Nat → Nat
  | 0 => 1
  | j + 1 => desc n j * (n - j)
def fac : Nat → Nat
  | 0 => 1
  | j + 1 => fac j * (j + 1)
theorem fac_pos : ∀ j, 0 < fac j
  | 0 => by decide
  | j + 1 => Nat.mul_pos (fac_pos j) (by omega)
theorem fac_mono {i j : Nat} (h : i ≤ j) : fac i ≤ fac j := by
  induction h with
  | refl => exact Nat.le_refl _
  | step h ih => exact Nat.le_trans ih (Nat.le_mul_of_pos_right _ (by omega))
theorem desc_ch (n : Nat) : ∀ j, j ≤ n → desc n j = ch n j * fac j
  | 0, _ => by rw [ch_zero]; rfl
  | j + 1, h => by
    show desc n j * (n - j) = ch n (j + 1) * (fac j * (j + 1))
    rw [desc_ch n j (by omega)]
    have h1 := ch_next (n := n) (k := j) (by omega)
    rw [Nat.mul_right_comm, Nat.mul_comm (ch n j) (n - j), ← h1, Nat.mul_comm (j + 1) (ch n (j + 1)), Nat.mul_assoc, Nat.mul_comm (j + 1) (fac j)]
theorem ch_div (n j : Nat) (h : j ≤ n) : desc n j / fac j = ch n j := by
  rw [desc_ch n j h]
  exact Nat.mul_div_cancel _ (fac_pos j)
theorem fac_1000 : fac 1000 < 2 ^ 8600 := by decide +kernel
/-- rows added up -/
def prow : Nat → List Int
  | 0 => [1]
  | t + 1 => [1] ++ List.zipWith (· + ·) (prow t) (prow t).tail ++ [1]
theorem prow_len : ∀ t, (prow t).length = t + 1
  | 0 => rfl
  | t + 1 => by
    show ([1] ++ List.zipWith (· + ·) (prow t) (prow t).tail ++ [1]).length = _
    rw [List.length_append, List.length_append, List.length_zipWith, List.length_tail, prow_len t]
    simp [Nat.add_comm]
theorem prow_get : ∀ (t k : Nat), k ≤ t → (prow t)[k]? = some (ch t k : Int)
  | 0, 0, _ => rfl
  | t + 1, k, h => by
    show ([1] ++ List.zipWith (· + ·) (prow t) (prow t).tail ++ [1])[k]? = _
    have hl : (List.zipWith (· + ·) (prow t) (prow t).tail).length = t := by
      rw [List.length_zipWith, List.length_tail, prow_len]; omega
    cases k with
    | zero => rw [ch_zero]; rfl
    | succ k =>
      rw [List.append_assoc, List.cons_append, List.nil_append, List.getElem?_cons_succ]
      by_cases hk : k = t
      · rw [hk]
        rw [List.getElem?_append_right (by omega), hl, Nat.sub_self, ch_self]
        rfl
      · rw [List.getElem?_append_left (by omega), List.getElem?_zipWith, List.getElem?_tail, prow_get t k (by omega), prow_get t (k + 1) (by omega), ch_succ]
        rfl
theorem prow_zip {t k : Nat} (h : k < t) : (List.zipWith (· + ·) (prow t) (prow t).tail)[k]? = some (ch t k + ch t (k + 1) : Int) := by
  rw [List.getElem?_zipWith, List.getElem?_tail, prow_get t k (by omega), prow_get t (k + 1) (by omega)]

/-! figures of a power -/
/-- (u + 1) ^ n is the sum of the choosing numbers as figures in base u -/
def psum (u n : Nat) : Nat → Nat
  | 0 => 0
  | k + 1 => psum u n k + ch n k * u ^ k
theorem psum_succ (u n : Nat) : ∀ k, psum u (n + 1) (k + 1) = psum u n (k + 1) + u * psum u n k
  | 0 => by
    show 0 + ch (n + 1) 0 * u ^ 0 = (0 + ch n 0 * u ^ 0) + u * 0
    rw [ch_zero, ch_zero, Nat.mul_zero, Nat.add_zero]
  | k + 1 => by
    have ih := psum_succ u n k
    show psum u (n + 1) (k + 1) + ch (n + 1) (k + 1) * u ^ (k + 1) = (psum u n (k + 1) + ch n (k + 1) * u ^ (k + 1)) + u * (psum u n k + ch n k * u ^ k)
    rw [ih, ch_succ, Nat.add_mul, Nat.mul_add, Nat.pow_succ, ← Nat.mul_assoc u (ch n k), Nat.mul_comm u (ch n k), Nat.mul_assoc (ch n k) u, Nat.mul_comm u (u ^ k)]
    omega
theorem psum_top (u n : Nat) : ∀ k, n < k → psum u n k = psum u n (n + 1)
  | k + 1, h => by
    by_cases e : k = n
    · rw [e]
    · show psum u n k + ch n k * u ^ k = _
      rw [ch_gt n k (by omega), Nat.zero_mul, Nat.add_zero, psum_top u n k (by omega)]
theorem psum_pow (u : Nat) : ∀ n, psum u n (n + 1) = (u + 1) ^ n
  | 0 => by show 0 + ch 0 0 * u ^ 0 = 1; rw [ch_zero]; rfl
  | n + 1 => by
    rw [psum_succ, psum_top u n (n + 1 + 1) (by omega), psum_pow u n, Nat.pow_succ, Nat.mul_add, Nat.mul_one, Nat.mul_comm u]
    omega
theorem ch_le : ∀ n k : Nat, ch n k ≤ 2 ^ n
  | _, 0 => by rw [ch_zero]; exact Nat.two_pow_pos _
  | 0, k + 1 => by show 0 ≤ _; exact Nat.zero_le _
  | n + 1, k + 1 => by
    rw [ch_succ, Nat.pow_succ]
    have h1 := ch_le n k
    have h2 := ch_le n (k + 1)
    omega
theorem psum_lt {u n : Nat} (h : 2 ^ n < u) : ∀ k, psum u n k < u ^ k
  | 0 => by show 0 < 1; decide
  | k + 1 => by
    show psum u n k + ch n k * u ^ k < u ^ (k + 1)
    have h1 := psum_lt h k
    have h2 := ch_le n k
    rw [Nat.pow_succ]
    have h3 : (ch n k + 1) * u ^ k ≤ u * u ^ k := Nat.mul_le_mul_right _ (by omega)
    rw [Nat.add_mul, Nat.one_mul] at h3
    rw [Nat.mul_comm (u ^ k) u]
    omega
theorem psum_split {u n : Nat} (h0 : 0 < u) : ∀ m k, k ≤ m → ∃ r, psum u n m = psum u n k + u ^ k * r ∧ (k < m → r % u = ch n k % u)
  | m, k, hk => by
    induction m with
    | zero =>
      have : k = 0 := by omega
      subst this
      exact ⟨0, by rw [Nat.mul_zero]; rfl, fun h => by omega⟩
    | succ m ih =>
      by_cases e : k = m + 1
      · subst e
        exact ⟨0, by rw [Nat.mul_zero]; rfl, fun h => by omega⟩
      · obtain ⟨r, h1, h2⟩ := ih (by omega)
        by_cases e2 : k = m
        · subst e2
          refine ⟨r + ch n k, ?_, fun _ => ?_⟩
          · show psum u n k + ch n k * u ^ k = _
            have h3 : u ^ k * r = 0 := by omega
            rw [Nat.mul_add, h3, Nat.zero_add, Nat.mul_comm]
          · have h3 : u ^ k * r = 0 := by omega
            have h4 : r = 0 := by
              rcases Nat.mul_eq_zero.mp h3 with z | z
              · exact absurd z (Nat.ne_of_gt (Nat.pow_pos h0))
              · exact z
            rw [h4, Nat.zero_add]
        · refine ⟨r + u ^ (m - k) * ch n m, ?_, fun _ => ?_⟩
          · show psum u n m + ch n m * u ^ m = _
            rw [h1, Nat.mul_add, ← Nat.mul_assoc, ← Nat.pow_add, show k + (m - k) = m by omega, Nat.mul_comm (ch n m)]
            omega
          · rw [show m - k = (m - k - 1) + 1 by omega, Nat.pow_succ, Nat.mul_comm (u ^ (m - k - 1)) u, Nat.mul_assoc, Nat.add_mul_mod_self_left]
            exact h2 (by omega)
/-- figure k of (u + 1) ^ n in base u is the choosing number -/
theorem fig_pow {u n : Nat} (h : 2 ^ n < u) (k : Nat) : (u + 1) ^ n / u ^ k % u = ch n k := by
  have hl := ch_le n k
  have h0 : 0 < u := by omega
  have hs := psum_lt h k
  rw [← psum_pow u n, ← psum_top u n (n + 1 + k) (by omega)]
  obtain ⟨r, h1, h2⟩ := psum_split h0 (n := n) (n + 1 + k) k (by omega)
  rw [h1, Nat.add_mul_div_left _ _ (Nat.pow_pos h0), Nat.div_eq_of_lt hs, Nat.zero_add, h2 (by omega)]
  exact Nat.mod_eq_of_lt (by omega)

theorem psm_split (p : Nat → Bool) : ∀ l : List Nat, psm (l.filter p) + psm (l.filter fun t => !p t) = psm l
  | [] => rfl
  | x :: l => by
    have h := psm_split p l
    have c : ∀ (a : Nat) (k : List Nat), psm (a :: k) = 2 ^ a + psm k := fun a k => by
      unfold psm
      rw [List.map_cons, List.sum_cons]
    rw [List.filter_cons, List.filter_cons, c]
    cases p x
    · rw [if_neg (by decide : ¬ (false = true)), if_pos (by decide : (!false) = true), c]; omega
    · rw [if_pos (by decide : true = true), if_neg (by decide : ¬ ((!true) = true)), c]; omega
def lone (n m i : Nat) : List Nat := (bpos n i).filter fun t => !m.testBit t
theorem lone_xor (n m i : Nat) : lone n m i = bpos (n ^^^ (n &&& m)) i := by
  unfold lone bpos
  rw [List.filter_filter]
  congr 1
  funext t
  rw [Nat.testBit_xor, Nat.testBit_and]
  cases n.testBit t <;> cases m.testBit t <;> rfl
theorem w20 {n m i : Nat} (h : n < 2 ^ i) : psm (lone n m i) = n - (n &&& m) ∧ (lone n m i).length = pc (n - (n &&& m)) ∧ (n &&& m = n ↔ lone n m i = []) ∧ (n - (n &&& m)) &&& n = n - (n &&& m) := by
  have ha : n &&& m < 2 ^ i := Nat.lt_of_le_of_lt Nat.and_le_left h
  have hx : n ^^^ (n &&& m) < 2 ^ i := Nat.xor_lt_two_pow h ha
  have hr : psm (lone n m i) = n ^^^ (n &&& m) := by rw [lone_xor, bpos_sum i _ hx]
  have hs : psm ((bpos n i).filter m.testBit) = n &&& m := by
    have e : (bpos n i).filter m.testBit = bpos (n &&& m) i := by
      unfold bpos
      rw [List.filter_filter]
      congr 1
      funext t
      rw [Nat.testBit_and, Bool.and_comm]
    rw [e, bpos_sum i _ ha]
  have hp := psm_split m.testBit (bpos n i)
  rw [bpos_sum i n h, hs] at hp
  have hp2 : (n &&& m) + psm (lone n m i) = n := hp
  have hxr : n ^^^ (n &&& m) = n - (n &&& m) := by omega
  have hl : (lone n m i).length = pc (n - (n &&& m)) := by rw [← hxr, lone_xor, bpos_len i _ hx]
  refine ⟨by omega, hl, ⟨fun e => ?_, fun e => ?_⟩, ?_⟩
  · rw [e, Nat.sub_self, pc] at hl
    exact List.length_eq_zero_iff.mp hl
  · rw [e] at hp2
    have : psm [] = 0 := rfl
    omega
  · rw [← hxr]
    refine Nat.eq_of_testBit_eq fun t => ?_
    rw [Nat.testBit_and, Nat.testBit_xor, Nat.testBit_and]
    cases n.testBit t <;> cases m.testBit t <;> rfl
theorem valV_has {kvs : List (Key × V)} {k : Key} : (valV kvs k).isSome = true ↔ ∃ p ∈ kvs, p.1 = k := by
  unfold valV
  rw [Option.isSome_map, List.find?_isSome]
  constructor
  · rintro ⟨p, h, e⟩; exact ⟨p, h, of_decide_eq_true e⟩
  · rintro ⟨p, h, e⟩; exact ⟨p, h, decide_eq_true e⟩
theorem putK_has {kvs : List (Key × V)} {k0 k : Key} {v : V} : (∃ p ∈ putK kvs k0 v, p.1 = k) ↔ (k0 = k ∨ ∃ p ∈ kvs, p.1 = k) := by
  unfold putK
  split
  · rename_i h
    obtain ⟨q, hq, eq⟩ := List.any_eq_true.mp h
    have eq := of_decide_eq_true eq
    constructor
    · rintro ⟨p, hp, rfl⟩
      obtain ⟨r, hr, rfl⟩ := List.mem_map.mp hp
      refine .inr ⟨r, hr, ?_⟩
      split <;> rfl
    · rintro (rfl | ⟨p, hp, rfl⟩)
      · exact ⟨_, List.mem_map.mpr ⟨q, hq, rfl⟩, by rw [if_pos eq]; exact eq⟩
      · exact ⟨_, List.mem_map.mpr ⟨p, hp, rfl⟩, by split <;> rfl⟩
  · constructor
    · rintro ⟨p, hp, rfl⟩
      rcases List.mem_append.mp hp with hp | hp
      · exact .inr ⟨p, hp, rfl⟩
      · rw [List.mem_singleton.mp hp]; exact .inl rfl
    · rintro (rfl | ⟨p, hp, rfl⟩)
      · exact ⟨_, List.mem_append.mpr (.inr (List.mem_singleton.mpr rfl)), rfl⟩
      · exact ⟨p, List.mem_append.mpr (.inl hp), rfl⟩
theorem merge_has {k : Key} : ∀ (more kvs : List (Key × V)), (∃ p ∈ mergeK kvs more, p.1 = k) ↔ ((∃ p ∈ kvs, p.1 = k) ∨ ∃ p ∈ more, p.1 = k)
  | [], kvs => by
    show (∃ p ∈ kvs, p.1 = k) ↔ _
    simp
  | q :: more, kvs => by
    have h := merge_has (k := k) more (putK kvs q.1 q.2)
    show (∃ p ∈ mergeK (putK kvs q.1 q.2) more, p.1 = k) ↔ _
    rw [h, putK_has]
    simp only [List.mem_cons, exists_eq_or_imp]
    constructor
    · rintro ((e | e) | e)
      · exact .inr (.inl e)
      · exact .inl e
      · exact .inr (.inr e)
    · rintro (e | e | e)
      · exact .inl (.inr e)
      · exact .inl (.inl e)
      · exact .inr e
def bkv (l : List Nat) : List (Key × V) := l.map fun t => (Sum.inl ((t : Nat) : Int), V.bl true)
theorem bkv_has {m j t : Nat} (h : m < 2 ^ j) : (valV (mergeK [] (bkv (bpos m j))) (Sum.inl ((t : Nat) : Int))).isSome = m.testBit t := by
  have e : (valV (mergeK [] (bkv (bpos m j))) (Sum.inl ((t : Nat) : Int))).isSome = true ↔ m.testBit t = true := by
    rw [valV_has, merge_has]
    constructor
    · rintro (⟨p, hp, _⟩ | ⟨p, hp, e⟩)
      · cases hp
      · obtain ⟨s, hs, rfl⟩ := List.mem_map.mp hp
        have e : s = t := by have := Sum.inl.inj e; omega
        rw [← e]
        exact (List.mem_filter.mp hs).2
    · intro ht
      refine .inr ⟨_, List.mem_map.mpr ⟨t, List.mem_filter.mpr ⟨?_, ht⟩, rfl⟩, rfl⟩
      rw [List.mem_range]
      rcases Nat.lt_or_ge t j with q | q
      · exact q
      · have := Nat.testBit_lt_two_pow (Nat.lt_of_lt_of_le h (Nat.pow_le_pow_right (by decide) q))
        rw [this] at ht
        cases ht
  cases h1 : (valV (mergeK [] (bkv (bpos m j))) (Sum.inl ((t : Nat) : Int))).isSome <;> cases h2 : m.testBit t
  · rfl
  · rw [h1, h2] at e; have := e.mpr rfl; cases this
  · rw [h1, h2] at e; have := e.mp rfl; cases this
  · rfl
/-! a dict of pairs -/
def gDict (K : PySem.W.Frag) : List V → Hp → VK → Prop := (fun xs H Q => ∃ (a : Addr) (ps : List Addr) (kvs : List (Key × V)), xs = [.ref a] ∧ SqL K H a (ps.map V.ref) ∧ Paired (fun p kv => SqT K H p [kV kv.1, kv.2]) ps kvs ∧ ∀ p, H p = none → Q (.ref p) (upd H p (.dK (mergeK [] kvs))))
theorem call_gDict {X : Cx} {K : PySem.W.Frag} (hK : X.K = K) (hcalm : X.calm = true) : CallR X (.type "dict") (gDict K) := by subst hK; exact call_dictP hcalm
theorem w_gDict {K : PySem.W.Frag} {H : Hp} {Q : VK} {a : Addr} {ps : List Addr} {kvs : List (Key × V)} (h : SqL K H a (ps.map V.ref)) (hp : Paired (fun p kv => SqT K H p [kV kv.1, kv.2]) ps kvs) (k : ∀ p H', H p = none → Sm H H' → H' p = some (.dK (mergeK [] kvs)) → Q (.ref p) H') : gDict K [.ref a] H Q := ⟨a, ps, kvs, rfl, h, hp, fun p hn => k p _ hn (sm_new hn) upd_same⟩
def DNE (y x : V) (Q : VK) (H2 : Hp) : Prop := ∃ a o, x = .ref a ∧ DGet H2 a y o ∧ Q (.bl (!o.isSome)) H2
theorem w_dni {ty td : TE} {σ : L2.St} {H : Hp} {Q : VK} (k : ty σ H fun y H1 => td σ H1 fun x H2 => DNE y x Q H2) : tDNotIn ty td σ H Q := k
theorem w_dne {H : Hp} {Q : VK} {a : Addr} {i : Int} {kvs : List (Key × V)} (h : H a = some (.dK kvs)) (k : Q (.bl (!(valV kvs (.inl i)).isSome)) H) : DNE (.int i) (.ref a) Q H := ⟨a, _, rfl, .inl ⟨kvs, .inl i, .inl h, rfl, rfl⟩, k⟩
theorem u_one {n : Nat} (h : n + 64 < cLine) : n + 1 < cLine := by omega
theorem paired_imp {α β : Type} {F G : α → β → Prop} (h : ∀ p q, F p q → G p q) : ∀ {l : List α} {k : List β}, Paired F l k → Paired G l k
  | _, _, .nil => .nil
  | _, _, .cons a b => .cons (h _ _ a) (paired_imp h b)
theorem nat_at {l : List Nat} {i : Nat} {x : V} (h : (l.map fun t => V.int ((t : Nat) : Int))[i]? = some x) : ∃ t : Nat, l[i]? = some t ∧ x = V.int (t : Int) := by
  rw [List.getElem?_map] at h
  cases e : l[i]? with
  | none => rw [e] at h; cases h
  | some t => rw [e] at h; cases h; exact ⟨t, rfl, rfl⟩
theorem bkv_take {l : List Nat} {i t : Nat} (h : l[i]? = some t) : bkv (l.take (i + 1)) = bkv (l.take i) ++ [(Sum.inl ((t : Nat) : Int), V.bl true)] := by
  unfold bkv
  rw [List.take_succ, h, List.map_append]
  rfl
theorem w_eqNil {K : PySem.W.Frag} {H : Hp} {Q : VK} {a b : Addr} {l : List Nat} (h1 : SqL K H a (l.map fun t => V.int ((t : Nat) : Int))) (h2 : SqL K H b []) (k : Q (.bl (decide (l = []))) H) : gEq K (.ref a) (.ref b) H Q := by
  have e1 : (l.map fun t => V.int ((t : Nat) : Int)) = (l.map fun t : Nat => ((t : Nat) : Int)).map V.int := by rw [List.map_map]; rfl
  rw [e1] at h1
  refine .inr ⟨.list ((l.map fun t : Nat => ((t : Nat) : Int)).map .int), .list (([] : List Int).map .int), .lst h1 (dp_ints _), .lst h2 .nil, PySem.W.ke_shaped_ints _, PySem.W.ke_shaped_ints _, ?_⟩
  have e : PyData.eqv (.list ((l.map fun t : Nat => ((t : Nat) : Int)).map .int)) (.list (([] : List Int).map .int)) = decide (l = []) := by
    rw [PyData.eqv, PySem.W.ked_eqvAll]
    cases l with
    | nil => rfl
    | cons x l => rfl
  rw [e]
  exact k
theorem flt_take {p : Nat → Bool} {l : List Nat} {i t : Nat} (h : l[i]? = some t) : (l.take (i + 1)).filter p = (l.take i).filter p ++ (if p t = true then [t] else []) := by
  rw [List.take_succ, h, List.filter_append]
  congr 1
  show List.filter p [t] = _
  rw [List.filter_cons]
  cases p t <;> rfl
theorem psm_int : ∀ L : List Nat, (L.map fun t : Nat => ((2 ^ t : Nat) : Int)).sum = ((psm L : Nat) : Int)
  | [] => rfl
  | x :: L => by
    have h := psm_int L
    unfold psm at h ⊢
    rw [List.map_cons, List.map_cons, List.sum_cons, List.sum_cons, h, Int.natCast_add]
local macro_rules | `(tactic| tm_at "rs") => `(tactic| first | with_reducible refine w_dni ?_ | ((with_reducible refine' w_dne ?h ?k); (case h => tm_at "rlk")) | ((with_reducible refine' w_eqNil ?h ?i ?k); (case h => tm_at "rsq"); (case i => tm_at "rsq")) | fail "no")

/-! int(text) and str(int) beyond 640 figures, up to 4300 -/
theorem nsIn_none {K : PySem.W.Frag} {h : Heap} {a : Addr} {mc : Str → Option Value} {n : Str} (X : K.In h) (G : h.Ns a mc) (e : PySem.W.nsIn K a n = some none) : mc n = none := by
  obtain ⟨o, es, ep, ho, hd, _, hf⟩ := G
  unfold PySem.W.nsIn at e
  split at e
  · rename_i c d es' n' sl q
    have := X _ _ q
    rw [ho] at this
    cases this
    cases hd
    split at e
    · cases e
    · rename_i he
      rw [← hf]
      unfold nsFind findBy
      rw [← Array.find?_toList, he]
      rfl
  · cases e
/-- nothing has set how many figures a text may have -/
def NoDig (K : PySem.W.Frag) : Prop := PySem.W.nsIn K cStatics "sys.int_max_str_digits" = some none
theorem inv_nd {X : Cx} {pins : List (Addr × Obj)} {σ : L2.St} {H : Hp} {s : Shared} (I : Inv X pins σ H s) (z : NoDig X.K) : s.heap.NoDigits := by
  obtain ⟨mc, a, _⟩ := I.nolimit
  exact ⟨mc, a, nsIn_none I.kIn a z⟩
theorem wp_textB {M : Model} {A : Around} {E : Value → Shared → Prop} {s : Shared} {Q : Value → Shared → Prop} {v : Value} {text : List Nat} {n : Int}
    (hs : ¬ (text.takeWhile (· != 0)).length ≤ 640) (hr : (int_private% "readNumeral") 4300 10 (text.takeWhile (· != 0)) = (int_private% "Numeral.value") n)
    (ha : ((text.takeWhile (· != 0)).length == text.length) = true) (nd : s.heap.NoDigits) (h : Q (.int n s.toks) { s with toks := s.toks + 1 }) :
    wpAny M A ((int_private% "intFromText") v text 10) Q E s := by
  obtain ⟨mc, hns, hnone⟩ := nd
  have hlim : ∀ {Q : Nat → Shared → Prop}, Q 4300 s → wpAny M A Builtin.intMaxStrDigits Q E s := fun q => by
    unfold Builtin.intMaxStrDigits
    refine wpAny_bind (wpAny_nsGet hns ?_)
    rw [hnone]
    exact wpAny_pure q
  clear hns hnone
  obtain ⟨hp, g, d, tk, os⟩ := s
  repeat (any_goals (first
    | assumption
    | (with_reducible refine wpAny_ite_false (decide_eq_false hs) ?_)
    | (with_reducible refine wpAny_ite_true (decide_eq_true ha) ?_)
    | (with_reducible refine hlim ?_)
    | wp_step))
  all_goals (try rw [hr])
  all_goals (try dsimp only)
  repeat (any_goals (first
    | assumption
    | (with_reducible refine wpAny_ite_false (decide_eq_false hs) ?_)
    | (with_reducible refine wpAny_ite_true (decide_eq_true ha) ?_)
    | wp_step))
structure HidI (p : Prop) : Prop where
  out : p
theorem int_big {x : PySem.Str} {u : Tok} {n : Int} (hl : x.length ≤ sizeLine) (hb : ¬ (numSeenOf x).length ≤ 640) (hn : PySem.intText? x = some n) {M : Model} {A : Around} {E : Value → Shared → Prop} {s : Shared} {Q : Value → Shared → Prop}
    (nd : s.heap.NoDigits) (h : Q (.int n s.toks) { s with toks := s.toks + 1 }) : wpAny M A (Builtin.«int.__new__» ⟨[.type "int", .str x u], []⟩) (fun fin s' => ∃ v, fin = .done (.ret v) ∧ Q v s') E s := by
  obtain ⟨hp, g, d, tk, os⟩ := s
  have f1 := F.conv_sub_int
  have f2 := F.madeHere_int
  have f3 := PySem.W.KIN.str_int
  have f4 := PySem.W.KIN.str_idx
  have f5 := PySem.W.KIN.str_trunc
  have f6 : typeOf (.str x u) = pure (.type "str") := rfl
  have hr : (int_private% "readNumeral") 4300 10 (numSeenOf x) = (int_private% "Numeral.value") n ∧ ((numSeenOf x).length == (numTextOf x).length) = true := by
    rcases read4300 x hl with ⟨m, h1, h2, h3⟩ | ⟨h1, _⟩
    · rw [hn] at h1
      injection h1 with h1
      subst h1
      exact ⟨h3, h2⟩
    · rw [hn] at h1
      cases h1
  have hk := HidI.mk (And.intro hb (And.intro hr nd))
  clear hr hl hn hb nd
  repeat (any_goals (first
    | assumption
    | ((with_reducible show wpAny _ _ ((int_private% "intFromText") _ _ _) _ _ _); refine wp_textB hk.out.1 hk.out.2.1.1 hk.out.2.1.2 hk.out.2.2 ?_)
    | wp_step))
  all_goals first | exact ⟨_, rfl, h⟩ | skip
theorem int_few {x : PySem.Str} {u : Tok} {n : Int} (hb : (numSeenOf x).length ≤ 640) (hn : PySem.intText? x = some n) {M : Model} {A : Around} {E : Value → Shared → Prop} {s : Shared} {Q : Value → Shared → Prop}
    (h : Q (.int n s.toks) { s with toks := s.toks + 1 }) : wpAny M A (Builtin.«int.__new__» ⟨[.type "int", .str x u], []⟩) (fun fin s' => ∃ v, fin = .done (.ret v) ∧ Q v s') E s := by
  obtain ⟨hp, g, d, tk, os⟩ := s
  have f1 := F.conv_sub_int
  have f2 := F.madeHere_int
  have f3 := PySem.W.KIN.str_int
  have f4 := PySem.W.KIN.str_idx
  have f5 := PySem.W.KIN.str_trunc
  have f6 : typeOf (.str x u) = pure (.type "str") := rfl
  have hr : (int_private% "readNumeral") 0 10 (numSeenOf x) = (int_private% "Numeral.value") n ∧ ((numSeenOf x).length == (numTextOf x).length) = true := by
    rcases read0 x hb with ⟨m, h1, h2, h3⟩ | ⟨h1, _⟩
    · rw [hn] at h1
      injection h1 with h1
      subst h1
      exact ⟨h3, h2⟩
    · rw [hn] at h1
      cases h1
  have hk := HidI.mk (And.intro hb hr)
  clear hr hn hb
  repeat (any_goals (first
    | assumption
    | ((with_reducible show wpAny _ _ ((int_private% "intFromText") _ _ _) _ _ _); refine PySem.W.KIN.wp_text hk.out.1 hk.out.2.1 hk.out.2.2 ?_)
    | wp_step))
  all_goals first | exact ⟨_, rfl, h⟩ | skip
theorem call_textB {prog : Program} {w : World} {A : Around} {E : Value → Shared → Prop} {s : Shared} {x : PySem.Str} {t : Tok} {n : Int} {Q : Value → Shared → Prop} (hl : x.length ≤ sizeLine) (hn : PySem.intText? x = some n) (nd : s.heap.NoDigits)
    (h : Q (.int n s.toks) { s with toks := s.toks + 1 }) : wpAny (model prog w) A (call (.type "int") [.str x t]) Q E s := by
  by_cases hb : (numSeenOf x).length ≤ 640
  · exact call_int_1 (S := fun A R s => R (.ok (.ret (.int n s.toks))) { s with toks := s.toks + 1 }) (fun prog w A R s hq => wpAny_mono (int_few (Q := fun v s' => R (.ok (.ret v)) s') hb hn hq) (fun fin s' h' => by obtain ⟨v, rfl, hv⟩ := h'; exact hv) fun _ _ x => x) ⟨typeIs_int _ _ _, h⟩
  · exact call_int_1 (S := fun A R s => s.heap.NoDigits ∧ R (.ok (.ret (.int n s.toks))) { s with toks := s.toks + 1 }) (fun prog w A R s hq => wpAny_mono (int_big (Q := fun v s' => R (.ok (.ret v)) s') hl hb hn hq.1 hq.2) (fun fin s' h' => by obtain ⟨v, rfl, hv⟩ := h'; exact hv) fun _ _ x => x) ⟨nd, typeIs_int _ _ _, h⟩
def gStrI : List V → Hp → VK → Prop := fun xs H Q => ∃ i : Int, xs = [.int i] ∧ i.natAbs < 10 ^ 4300 ∧ Q (.str (toString i)) H
theorem w_strInt {i : Int} {H : Hp} {Q : VK} (h : i.natAbs < 10 ^ 4300) (k : Q (.str (toString i)) H) : gStrI [.int i] H Q := ⟨i, rfl, h, k⟩
def gIntT : List V → Hp → VK → Prop := fun xs H Q => ∃ a n, xs = [.str a] ∧ PySem.intText? a = some n ∧ a.length ≤ sizeLine ∧ Q (.int n) H
theorem w_intText {a : Str} {n : Int} {H : Hp} {Q : VK} (h : PySem.intText? a = some n) (hl : a.length ≤ sizeLine) (k : Q (.int n) H) : gIntT [.str a] H Q := ⟨a, n, rfl, h, hl, k⟩
section
variable {X : Cx}
theorem call_intText (z : NoDig X.K) : CallR X (.type "int") gIntT := by
  intro pins s σ H xs us Q I rs h
  obtain ⟨a, n, rfl, hn, hl, h⟩ := h
  cases rs with
  | cons r1 rs =>
    cases rs
    obtain ⟨t, rfl⟩ := r1
    exact call_textB hl hn (inv_nd I z) ⟨.int n, H, I.tok _, ⟨_, rfl⟩, h⟩
theorem call_strInt (z : NoDig X.K) (hc : X.calm = true) : CallR X (.type "str") gStrI := by
  intro pins s σ H xs us Q I r h
  obtain ⟨i, rfl, hz, q⟩ := h
  obtain ⟨u, rfl, t, rfl⟩ := vals1 r
  exact str_of_int_or (I.ok.hd hc) (inv_nd I z) (fun _ => ⟨.str _, H, I.tok _, ⟨_, rfl⟩, q⟩) (fun hge => absurd hz (Nat.not_lt.mpr hge))
end

/-! int(text, 2) of noughts and ones -/
def Bit2 (c : Nat) : Prop := c = 48 ∨ c = 49
def num2 (l : List Nat) : Nat := l.foldl (fun a c => a * 2 + (c - 48)) 0
theorem b2_hex {c : Nat} (h : Bit2 c) : L2.Hx.IsHex c := .inl (by rcases h with rfl | rfl <;> decide)
theorem b2_step {ds : Array Nat} {b : Bool} {c : Nat} (h : Bit2 c) : PySem.NumText.step 2 (ds, b) c = some (ds.push (c - 48), true) := by
  rcases h with rfl | rfl <;> rfl
theorem b2_fold : ∀ (l : List Nat) (ds : Array Nat), (∀ c ∈ l, Bit2 c) → l.foldlM (PySem.NumText.step 2) (ds, true) = some (l.foldl (fun a c => a.push (c - 48)) ds, true)
  | [], _, _ => rfl
  | c :: l, ds, h => by
    rw [List.foldlM_cons, b2_step (h c List.mem_cons_self)]
    exact b2_fold l (ds.push (c - 48)) fun x hx => h x (List.mem_cons_of_mem _ hx)
theorem b2_digits {l : List Nat} (h : ∀ c ∈ l, Bit2 c) (ne : l ≠ []) : digits? 2 l = some (l.foldl (fun a c => a.push (c - 48)) #[]) := by
  cases l with
  | nil => exact (ne rfl).elim
  | cons c l =>
    unfold digits?
    rw [List.foldlM_cons, b2_step (h c List.mem_cons_self)]
    show ((l.foldlM (PySem.NumText.step 2) (Array.push #[] (c - 48), true)).bind _) = _
    rw [b2_fold l _ fun x hx => h x (List.mem_cons_of_mem _ hx)]
    rfl
theorem b2_push : ∀ (l : List Nat) (ds : Array Nat), (l.foldl (fun a c => a.push (c - 48)) ds).foldl (fun a d => a * 2 + d) 0 = l.foldl (fun a c => a * 2 + (c - 48)) (ds.foldl (fun a d => a * 2 + d) 0)
  | [], _ => rfl
  | c :: l, ds => by
    rw [List.foldl_cons, List.foldl_cons, b2_push l (ds.push (c - 48)), Array.foldl_push]
theorem b2_based {l : List Nat} (h : ∀ c ∈ l, Bit2 c) : based 2 l = (2, false, l) := by
  match l, h with
  | [], _ => rfl
  | [a], h => rcases h a List.mem_cons_self with rfl | rfl <;> rfl
  | a :: c :: r, h =>
    have h2 := h c (List.mem_cons_of_mem _ List.mem_cons_self)
    rcases h a List.mem_cons_self with rfl | rfl <;> rcases h2 with rfl | rfl <;> rfl
theorem b2_read (m : Nat) {l : List Nat} (h : ∀ c ∈ l, Bit2 c) (ne : l ≠ []) : (int_private% "readNumeral") m 2 l = (int_private% "Numeral.value") ((num2 l : Nat) : Int) := by
  have hx : ∀ c ∈ l, L2.Hx.IsHex c := fun c hc => b2_hex (h c hc)
  have hb := b2_based h
  refine Eq.trans (readNumeral_eq m 2 l) ?_
  rw [L2.Hx.dropB hx, L2.Hx.signH hx]
  show judge m false (based 2 l).1 (based 2 l).2.1 (digits? (based 2 l).1 ((List.dropWhile blank (based 2 l).2.2.reverse).reverse)) = _
  rw [hb]
  show judge m false 2 false (digits? 2 ((List.dropWhile blank l.reverse).reverse)) = _
  rw [L2.Hx.dropB (cs := l.reverse) fun c hc => hx c (List.mem_reverse.mp hc), List.reverse_reverse, b2_digits h ne]
  have e : ∀ ds : Array Nat, judge m false 2 false (some ds) = (int_private% "Numeral.value") ((ds.foldl (fun a d => a * 2 + d) 0 : Nat) : Int) := fun ds => by
    unfold judge
    rfl
  rw [e, b2_push]
  rfl
theorem wp_text2 {M : Model} {A : Around} {E : Value → Shared → Prop} {s : Shared} {Q : Value → Shared → Prop} {v : Value} {text : List Nat} {n : Int}
    (hr : ∀ m : Nat, (int_private% "readNumeral") m 2 (text.takeWhile (· != 0)) = (int_private% "Numeral.value") n)
    (ha : ((text.takeWhile (· != 0)).length == text.length) = true) (nd : s.heap.NoDigits) (h : Q (.int n s.toks) { s with toks := s.toks + 1 }) :
    wpAny M A ((int_private% "intFromText") v text 2) Q E s := by
  obtain ⟨mc, hns, hnone⟩ := nd
  have hlim : ∀ {Q : Nat → Shared → Prop}, Q 4300 s → wpAny M A Builtin.intMaxStrDigits Q E s := fun q => by
    unfold Builtin.intMaxStrDigits
    refine wpAny_bind (wpAny_nsGet hns ?_)
    rw [hnone]
    exact wpAny_pure q
  clear hns hnone
  obtain ⟨hp, g, d, tk, os⟩ := s
  by_cases hs : (text.takeWhile (· != 0)).length ≤ 640
  · repeat (any_goals (first
      | assumption
      | (with_reducible refine wpAny_ite_true (decide_eq_true hs) ?_)
      | (with_reducible refine wpAny_ite_true (decide_eq_true ha) ?_)
      | wp_step))
    all_goals (try rw [hr])
    all_goals (try dsimp only)
    repeat (any_goals (first
      | assumption
      | (with_reducible refine wpAny_ite_true (decide_eq_true ha) ?_)
      | wp_step))
  · repeat (any_goals (first
      | assumption
      | (with_reducible refine wpAny_ite_false (decide_eq_false hs) ?_)
      | (with_reducible refine wpAny_ite_true (decide_eq_true ha) ?_)
      | (with_reducible refine hlim ?_)
      | wp_step))
    all_goals (try rw [hr])
    all_goals (try dsimp only)
    repeat (any_goals (first
      | assumption
      | (with_reducible refine wpAny_ite_true (decide_eq_true ha) ?_)
      | wp_step))
theorem int_two {x : PySem.Str} {u t : Tok} (hx : ∀ c ∈ x.cps.toList, Bit2 c) (ne : x.cps.toList ≠ []) {M : Model} {A : Around} {E : Value → Shared → Prop} {s : Shared} {Q : Value → Shared → Prop}
    (nd : s.heap.NoDigits) (h : Q (.int ((num2 x.cps.toList : Nat) : Int) s.toks) { s with toks := s.toks + 1 }) : wpAny M A (Builtin.«int.__new__» ⟨[.type "int", .str x u, .int 2 t], []⟩) (fun fin s' => ∃ v, fin = .done (.ret v) ∧ Q v s') E s := by
  obtain ⟨hp, g, d, tk, os⟩ := s
  have f1 := F.conv_sub_int
  have f2 := F.madeHere_int
  have f6 : typeOf (.str x u) = pure (.type "str") := rfl
  obtain ⟨e1, e2⟩ := L2.Hx.seen_hex (x := x) fun c hc => b2_hex (hx c hc)
  have hr : ∀ m : Nat, (int_private% "readNumeral") m 2 (numSeenOf x) = (int_private% "Numeral.value") ((num2 x.cps.toList : Nat) : Int) := fun m => by
    rw [e2]
    exact b2_read m hx ne
  have ha : ((numSeenOf x).length == (numTextOf x).length) = true := by
    rw [e1, e2]
    exact beq_self_eq_true _
  have hk := HidI.mk (And.intro hr (And.intro ha nd))
  clear hr ha e1 e2 ne hx nd
  repeat (any_goals (first
    | assumption
    | ((with_reducible show wpAny _ _ ((int_private% "intFromText") _ _ _) _ _ _); refine wp_text2 hk.out.1 hk.out.2.1 hk.out.2.2 ?_)
    | wp_step))
  all_goals first | exact ⟨_, rfl, h⟩ | skip
def gIntT2 : List V → Hp → VK → Prop := fun xs H Q => ∃ a, xs = [.str a, .int 2] ∧ a.cps.toList ≠ [] ∧ (∀ c ∈ a.cps.toList, Bit2 c) ∧ Q (.int ((num2 a.cps.toList : Nat) : Int)) H
theorem call_two {prog : Program} {w : World} {A : Around} {E : Value → Shared → Prop} {s : Shared} {x : PySem.Str} {u t : Tok} {Q : Value → Shared → Prop} (hx : ∀ c ∈ x.cps.toList, Bit2 c) (ne : x.cps.toList ≠ []) (nd : s.heap.NoDigits)
    (h : Q (.int ((num2 x.cps.toList : Nat) : Int) s.toks) { s with toks := s.toks + 1 }) : wpAny (model prog w) A (call (.type "int") [.str x u, .int 2 t]) Q E s :=
  callType_new (S := fun A R s => s.heap.NoDigits ∧ R (.ok (.ret (.int ((num2 x.cps.toList : Nat) : Int) s.toks))) { s with toks := s.toks + 1 }) F.called_int F.newNe_int (L2.Hx.typeCall_int_2 _ _) (L2.Hx.newCall_int_2 _ _)
    (fun obj => F.initArgs_range_2 obj _ _) F.entry_int_new (fun prog w A R s hq => wpAny_mono (int_two (Q := fun v s' => R (.ok (.ret v)) s') hx ne hq.1 hq.2) (fun fin s' h' => by obtain ⟨v, rfl, hv⟩ := h'; exact hv) fun _ _ x => x) ⟨nd, typeIs_int _ _ _, h⟩
section
variable {X : Cx}
theorem call_intText2 (z : NoDig X.K) : CallR X (.type "int") gIntT2 := by
  intro pins s σ H xs us Q I rs h
  obtain ⟨a, rfl, ne, hx, h⟩ := h
  obtain ⟨u1, u2, rfl, ⟨t1, rfl⟩, t2, rfl⟩ := vals2 rs
  exact call_two hx ne (inv_nd I z) ⟨.int _, H, I.tok _, ⟨_, rfl⟩, h⟩
end
theorem w_intText2 {a : Str} {H : Hp} {Q : VK} (ne : a.cps.toList ≠ []) (hx : ∀ c ∈ a.cps.toList, Bit2 c) (k : Q (.int ((num2 a.cps.toList : Nat) : Int)) H) : gIntT2 [.str a, .int 2] H Q := ⟨a, rfl, ne, hx, k⟩

/-! a number's bits as a text -/
def bl : Nat → List Nat
  | 0 => []
  | n + 1 => bl ((n + 1) / 2) ++ [48 + (n + 1) % 2]
termination_by n => n
decreasing_by omega
theorem bl_eq {n : Nat} (h : 0 < n) : bl n = bl (n / 2) ++ [48 + n % 2] := by
  cases n with
  | zero => omega
  | succ n => rw [bl]
theorem bl_zero : bl 0 = [] := by rw [bl]
theorem bl_len : ∀ (e n : Nat), n < 2 ^ e → (bl n).length ≤ e
  | 0, n, h => by
    rw [Nat.pow_zero] at h
    rw [show n = 0 by omega, bl_zero]
    exact Nat.le_refl _
  | e + 1, n, h => by
    rw [Nat.pow_succ] at h
    by_cases h0 : 0 < n
    · rw [bl_eq h0, List.length_append]
      have := bl_len e (n / 2) (by omega)
      show _ + 1 ≤ e + 1
      omega
    · rw [show n = 0 by omega, bl_zero]
      exact Nat.zero_le _
theorem bl_bit (n : Nat) : ∀ c ∈ bl n, Bit2 c := by
  induction n using Nat.strongRecOn with
  | ind n ih =>
    intro c hc
    by_cases h0 : 0 < n
    · rw [bl_eq h0] at hc
      rcases List.mem_append.mp hc with hc | hc
      · exact ih (n / 2) (by omega) c hc
      · rw [List.mem_singleton.mp hc]
        unfold Bit2
        omega
    · rw [show n = 0 by omega, bl_zero] at hc
      cases hc
theorem num2_snoc (l : List Nat) (c : Nat) : num2 (l ++ [c]) = num2 l * 2 + (c - 48) := by
  unfold num2
  rw [List.foldl_append]
  rfl
theorem num2_bl (n : Nat) : num2 (bl n) = n := by
  induction n using Nat.strongRecOn with
  | ind n ih =>
    by_cases h0 : 0 < n
    · rw [bl_eq h0, num2_snoc, ih (n / 2) (by omega)]
      omega
    · rw [show n = 0 by omega, bl_zero]
      rfl
def btl (n : Nat) : List Nat := if n = 0 then [48] else bl n
theorem btl_zero : btl 0 = [48] := if_pos rfl
theorem btl_pos {n : Nat} (h : 0 < n) : btl n = bl n := if_neg (by omega)
theorem bl_ne {n : Nat} (h : 0 < n) : bl n ≠ [] := by
  rw [bl_eq h]
  intro e
  have := congrArg List.length e
  rw [List.length_append] at this
  simp at this
theorem btl_ne (n : Nat) : btl n ≠ [] := by
  by_cases h : 0 < n
  · rw [btl_pos h]; exact bl_ne h
  · rw [show n = 0 by omega, btl_zero]; intro e; cases e
theorem btl_bit (n : Nat) : ∀ c ∈ btl n, Bit2 c := by
  by_cases h : 0 < n
  · rw [btl_pos h]; exact bl_bit n
  · rw [show n = 0 by omega, btl_zero]
    intro c hc
    exact .inl (List.mem_singleton.mp hc)
theorem btl_len {e n : Nat} (h : n < 2 ^ e) (he : 1 ≤ e) : (btl n).length ≤ e := by
  by_cases h0 : 0 < n
  · rw [btl_pos h0]; exact bl_len e n h
  · rw [show n = 0 by omega, btl_zero]; exact he
theorem num2_zeros (l : List Nat) : ∀ k : Nat, num2 (List.replicate k 48 ++ l) = num2 l
  | 0 => rfl
  | k + 1 => num2_zeros l k
theorem num2_btl (n : Nat) : num2 (btl n) = n := by
  by_cases h : 0 < n
  · rw [btl_pos h]; exact num2_bl n
  · rw [show n = 0 by omega, btl_zero]; rfl
theorem str_ext {a b : Str} (h : a.cps.toList = b.cps.toList) : a = b := by
  cases a
  cases b
  congr 1
  exact Array.toList_inj.mp h
def sg (c : Nat) : Str := ⟨#[c]⟩
theorem app_tl (a b : Str) : (a ++ b).cps.toList = a.cps.toList ++ b.cps.toList := Array.toList_append
theorem join_fold (e : Str) (he : e.cps = #[]) : ∀ (cs : List Nat) (a : Array Nat), ((cs.map sg).foldl (fun acc p => acc ++ e.cps ++ p.cps) a).toList = a.toList ++ cs
  | [], a => by simp
  | c :: cs, a => by
    rw [List.map_cons, List.foldl_cons, join_fold e he cs, he]
    simp [sg]
theorem join_sg (cs : List Nat) : (Txt.join (Str.ofString "") (cs.map sg)).cps.toList = cs := by
  cases cs with
  | nil => rfl
  | cons c cs => exact join_fold (Str.ofString "") rfl cs #[c]
theorem tos_bit {i : Int} (h : i = 0 ∨ i = 1) : ((toString i : String) : Str) = sg (48 + i.toNat) := by
  rcases h with rfl | rfl <;> rfl
/-! lists of texts -/
theorem dp_strs {K : PySem.W.Frag} {H : Hp} : ∀ ys : List Str, DpAll K H (ys.map V.str) (ys.map PyData.str)
  | [] => .nil
  | y :: ys => .cons (.str y) (dp_strs ys)
theorem lay_strs : ∀ ys : List Str, (∀ y ∈ ys, PyData.strOk y = true) → PyData.canLayAll0 (ys.map PyData.str) = true ∧ PyData.depthAll (ys.map PyData.str) = 0
  | [], _ => ⟨rfl, rfl⟩
  | y :: ys, h => by
    obtain ⟨h1, h2⟩ := lay_strs ys (fun z hz => h z (List.mem_cons_of_mem _ hz))
    have h3 := h y List.mem_cons_self
    exact ⟨by simp [PyData.canLayAll0, PyData.canLay0, h1, h3], by simp [PyData.depthAll, PyData.depth, h2]⟩
theorem shp_strs {ys : List Str} (h : ∀ y ∈ ys, PyData.strOk y = true) : SeqAt.shaped (.list (ys.map PyData.str)) = true := by
  obtain ⟨h1, h2⟩ := lay_strs ys h
  simp [SeqAt.shaped, PyData.canLay0, PyData.depth, h1, h2]
theorem sg_ok {cs : List Nat} (h : ∀ c ∈ cs, c < 1000) : ∀ y ∈ cs.map sg, PyData.strOk y = true := fun y hy => by
  obtain ⟨c, hc, rfl⟩ := List.mem_map.mp hy
  have := h c hc
  unfold PyData.strOk sg
  simp
  omega
theorem w_eqNilT {K : PySem.W.Frag} {H : Hp} {Q : VK} {a b : Addr} {ys : List Str} (h1 : SqL K H a (ys.map V.str)) (h2 : SqL K H b []) (ok : ∀ y ∈ ys, PyData.strOk y = true) (k : Q (.bl (decide (ys = []))) H) : gEq K (.ref a) (.ref b) H Q := by
  refine .inr ⟨.list (ys.map .str), .list (([] : List Str).map .str), .lst h1 (dp_strs _), .lst h2 .nil, shp_strs ok, shp_strs (fun y hy => by cases hy), ?_⟩
  have e : PyData.eqv (.list (ys.map .str)) (.list (([] : List Str).map .str)) = decide (ys = []) := by
    rw [PyData.eqv]
    cases ys <;> rfl
  rw [e]
  exact k
def RevE (K : PySem.W.Frag) (Q : VK) (x : V) (H1 : Hp) : Prop := ∃ a xs, x = .ref a ∧ SqL K H1 a xs ∧ ∀ p, H1 p = none → Q (.ref p) (upd H1 p (.lst xs.reverse))
theorem w_revL {K : PySem.W.Frag} {σ : L2.St} {H : Hp} {Q : VK} {te : TE} (k : te σ H fun x H1 => RevE K Q x H1) : tRevL K te σ H Q := k
theorem w_revE {K : PySem.W.Frag} {H : Hp} {Q : VK} {a : Addr} {xs : List V} (h : SqL K H a xs) (k : ∀ p H', H p = none → Sm H H' → H' p = some (.lst xs.reverse) → Q (.ref p) H') : RevE K Q (.ref a) H := ⟨a, xs, rfl, h, fun p hp => k p _ hp (sm_new hp) upd_same⟩
/-! x or y, x a text -/
def OrS (K : PySem.W.Frag) (tb : TE) (σ : L2.St) (Q : VK) (x : V) (H1 : Hp) : Prop := ∃ k, TruV K x H1 k ∧ if k = true then Q x H1 else tb σ H1 Q
theorem w_orT {K : PySem.W.Frag} {ta tb : TE} {σ : L2.St} {H : Hp} {Q : VK} (k : ta σ H fun x H1 => OrS K tb σ Q x H1) : tOrT K ta tb σ H Q := k
theorem w_orS {K : PySem.W.Frag} {tb : TE} {σ : L2.St} {H : Hp} {Q : VK} {z : Str} (zl : z.length ≤ sizeLine) (k1 : z.cps.toList ≠ [] → Q (.str z) H) (k2 : z.cps.toList = [] → tb σ H Q) : OrS K tb σ Q (.str z) H := by
  refine ⟨_, ⟨zl, rfl⟩, ?_⟩
  have e : z.length = z.cps.toList.length := (tl_len z).symm
  cases h : z.cps.toList with
  | nil =>
    rw [h] at e
    rw [e]
    exact k2 h
  | cons c l =>
    rw [h] at e
    rw [e, if_pos (by rw [bne_iff_ne, List.length_cons]; omega)]
    exact k1 (by rw [h]; intro z; cases z)
def gStrB : List V → Hp → VK → Prop := fun xs H Q => ∃ i : Int, xs = [.int i] ∧ i.natAbs.log2 < 1920 ∧ Q (.str (toString i)) H
theorem call_gStrB {X : Cx} : CallR X (.type "str") gStrB := call_str_int
theorem w_strB {i : Int} {H : Hp} {Q : VK} (h : i = 0 ∨ i = 1) (k : Q (.str (sg (48 + i.toNat))) H) : gStrB [.int i] H Q := by
  refine ⟨i, rfl, ?_, ?_⟩
  · rcases h with rfl | rfl <;> decide
  · rw [tos_bit h]; exact k
/-! a nought, so often -/
theorem zeros_ok {m : Int} (h0 : 0 ≤ m) (h1 : m ≤ 10000) : MulOk (Str.ofString "0") m := by
  have e : (Str.ofString "0").length = 1 := rfl
  refine ⟨?_, fun h _ => ?_, fun _ _ => ?_⟩
  · rw [Bool.or_eq_false_iff, decide_eq_false_iff_not, decide_eq_false_iff_not]
    exact ⟨by omega, by omega⟩
  · rw [e]
    have : (1 : Int) ≤ (2 ^ 63 - 1) / m := by
      rw [Int.le_ediv_iff_mul_le (by omega)]
      omega
    omega
  · rw [e]
    show decide (1 * m.toNat > sizeLine) = false
    rw [decide_eq_false_iff_not]
    have : m.toNat ≤ sizeLine := sz_of (by omega)
    omega
theorem rep_fold (c : Nat) : ∀ (n : Nat) (a : Array Nat), ((List.replicate n (#[c] : Array Nat)).foldl (· ++ ·) a).toList = a.toList ++ List.replicate n c
  | 0, a => by simp
  | n + 1, a => by
    rw [List.replicate_succ, List.foldl_cons, rep_fold c n, Array.toList_append, List.append_assoc]
    rfl
theorem zeros_tl {m : Int} (h0 : 0 ≤ m) : (Txt.mul (Str.ofString "0") m).cps.toList = List.replicate m.toNat 48 := by
  unfold Txt.mul
  split
  · rw [show m = 0 by omega]; rfl
  · split
    · rename_i h
      rcases Bool.or_eq_true_iff.mp h with e | e
      · rw [beq_iff_eq.mp e]; rfl
      · cases e
    · exact rep_fold 48 m.toNat #[]
local macro_rules | `(tactic| tm_at "rs") => `(tactic| first | with_reducible refine w_revL ?_ | ((with_reducible refine' w_revE ?h (fun _ _ _ _ _ => ?k)); (case h => tm_at "rsq")) | with_reducible refine w_orT ?_ | fail "no")

/-! texts of plain signs -/
def Low (z : Str) : Prop := ∀ c ∈ z.cps.toList, c < 128
theorem Low.app {a b : Str} (h : Low a) (k : Low b) : Low (a ++ b) := fun c hc => by
  rw [app_tl] at hc
  rcases List.mem_append.mp hc with hc | hc
  · exact h c hc
  · exact k c hc
theorem Low.cut {z : Str} (h : Low z) (lo hi : Option Int) : Low (cutS z lo hi) := fun c hc => by
  refine h c ?_
  unfold cutS at hc
  have e : ∀ l : List Nat, (⟨l.toArray⟩ : Str).cps.toList = l := fun l => rfl
  rw [e] at hc
  exact List.mem_of_mem_drop (List.mem_of_mem_take hc)
theorem Low.sg {z : Str} {i c : Nat} (h : Low z) (e : z.cps.toList[i]? = some c) : Low (⟨#[c]⟩ : Str) := fun x hx => by
  have hx : x ∈ [c] := hx
  rw [List.mem_singleton.mp hx]
  exact h c (List.mem_of_getElem? e)
theorem signs_low : Low (Str.ofString "abcdefghijklmnopqrstuvwxyz0123456789") := by
  have h : (Str.ofString "abcdefghijklmnopqrstuvwxyz0123456789").cps.toList.all (fun c => decide (c < 128)) = true := by decide +kernel
  intro c hc
  exact of_decide_eq_true (List.all_eq_true.mp h c hc)
theorem zeros_low (m : Int) (h : 0 ≤ m) : Low (Txt.mul (Str.ofString "0") m) := fun c hc => by
  rw [zeros_tl h] at hc
  rw [List.eq_of_mem_replicate hc]
  decide

/-! a dict of names and numbers -/
structure DicOk (kvs : List (Key × V)) (ys : List Str) (M : Nat) : Prop where
  nd : (kvs.map (·.1)).Nodup
  ok : ∀ p ∈ kvs, ∃ (s : Str) (n : Nat), p = (Sum.inr s, V.int (n : Nat)) ∧ n < M ∧ Low s
  has : ∀ y ∈ ys, ∃ p ∈ kvs, p.1 = Sum.inr y
def gOf (kvs : List (Key × V)) (s : Str) : Nat := match valV kvs (.inr s) with
  | some (.int i) => i.toNat
  | _ => 0
theorem valV_some {kvs : List (Key × V)} {k : Key} {v : V} (h : valV kvs k = some v) : (k, v) ∈ kvs := by
  unfold valV at h
  cases e : kvs.find? (fun kv => decide (kv.1 = k)) with
  | none => rw [e] at h; cases h
  | some p =>
    rw [e] at h
    cases h
    have h1 := List.find?_some e
    have h2 := List.mem_of_find?_eq_some e
    have h1 := of_decide_eq_true h1
    obtain ⟨a, b⟩ := p
    have h1 : a = k := h1
    subst h1
    exact h2
theorem DicOk.val {kvs : List (Key × V)} {ys : List Str} {M : Nat} (h : DicOk kvs ys M) {s : Str} (e : (valV kvs (.inr s)).isSome = true) : valV kvs (.inr s) = some (.int (gOf kvs s : Nat)) ∧ gOf kvs s < M := by
  obtain ⟨v, hv⟩ := Option.isSome_iff_exists.mp e
  obtain ⟨s', n, e1, hn, _⟩ := h.ok _ (valV_some hv)
  cases e1
  have hg : gOf kvs s = n := by
    unfold gOf
    rw [hv]
    rfl
  rw [hg]
  exact ⟨hv, hn⟩
theorem DicOk.at {kvs : List (Key × V)} {ys : List Str} {M : Nat} (h : DicOk kvs ys M) {y : Str} (hy : y ∈ ys) : valV kvs (.inr y) = some (.int (gOf kvs y : Nat)) ∧ gOf kvs y < M := h.val (valV_has.mpr (h.has y hy))
theorem DicOk.nil {M : Nat} : DicOk [] [] M := ⟨List.nodup_nil, (by intro p hp; cases hp), (by intro y hy; cases hy)⟩
theorem DicOk.up {kvs : List (Key × V)} {ys : List Str} {M M' : Nat} (h : DicOk kvs ys M) (l : M ≤ M') : DicOk kvs ys M' := ⟨h.nd, fun p hp => by
  obtain ⟨s, n, e, hn, hs⟩ := h.ok p hp
  exact ⟨s, n, e, by omega, hs⟩, h.has⟩
theorem DicOk.sub {kvs : List (Key × V)} {ys zs : List Str} {M : Nat} (h : DicOk kvs ys M) (l : ∀ z ∈ zs, z ∈ ys) : DicOk kvs zs M := ⟨h.nd, h.ok, fun z hz => h.has z (l z hz)⟩
theorem putK_len {kvs : List (Key × V)} {k : Key} {v : V} : (putK kvs k v).length ≤ kvs.length + 1 := by
  unfold putK
  split
  · rw [List.length_map]; omega
  · rw [List.length_append]; exact Nat.le_refl _
theorem DicOk.put {kvs : List (Key × V)} {ys : List Str} {M : Nat} (h : DicOk kvs ys M) (s : Str) (hs : Low s) {n : Nat} (hn : n < M) : DicOk (putK kvs (.inr s) (.int (n : Nat))) (ys ++ [s]) M := by
  refine ⟨?_, ?_, fun y hy => ?_⟩
  · unfold putK
    split
    · rw [List.map_map]
      have e : ((fun x : Key × V => x.1) ∘ fun kv : Key × V => if kv.1 = Sum.inr s then (kv.1, V.int (n : Nat)) else kv) = fun x => x.1 := by
        funext x
        show (if x.1 = Sum.inr s then (x.1, V.int (n : Nat)) else x).1 = x.1
        split <;> rfl
      first | (rw [e]; exact h.nd) | (refine cast ?_ h.nd; congr 1; refine List.map_congr_left fun x _ => ?_; show _ = (if _ then _ else _).1; split <;> rfl)
    · rename_i hno
      rw [List.map_append]
      refine List.nodup_append.mpr ⟨h.nd, by simp, fun x hx y hy => ?_⟩
      have hy : y = Sum.inr s := List.mem_singleton.mp hy
      subst hy
      rintro rfl
      obtain ⟨p, hp, e⟩ := List.mem_map.mp hx
      exact hno (List.any_eq_true.mpr ⟨p, hp, decide_eq_true e⟩)
  · intro p hp
    unfold putK at hp
    split at hp
    · obtain ⟨r, hr, rfl⟩ := List.mem_map.mp hp
      split
      · rename_i e
        exact ⟨s, n, by rw [e], hn, hs⟩
      · exact h.ok r hr
    · rcases List.mem_append.mp hp with hp | hp
      · exact h.ok p hp
      · rw [List.mem_singleton.mp hp]
        exact ⟨s, n, rfl, hn, hs⟩
  · rw [putK_has]
    rcases List.mem_append.mp hy with hy | hy
    · exact .inr (h.has y hy)
    · rw [List.mem_singleton.mp hy]
      exact .inl rfl
/-! a dict copied, two dicts compared -/
def gDictD : List V → Hp → VK → Prop := fun xs H Q => ∃ (a : Addr) (kvs : List (Key × V)), xs = [.ref a] ∧ Rd H a (.dK kvs) ∧ ∀ p, H p = none → Q (.ref p) (upd H p (.dK kvs))
theorem call_gDictD {X : Cx} : CallR X (.type "dict") gDictD := call_dictD
theorem w_dictD {H : Hp} {Q : VK} {a : Addr} {kvs : List (Key × V)} (h : H a = some (.dK kvs)) (k : ∀ p H', H p = none → Sm H H' → H' p = some (.dK kvs) → Q (.ref p) H') : gDictD [.ref a] H Q := ⟨a, kvs, rfl, .inl h, fun p hp => k p _ hp (sm_new hp) upd_same⟩
theorem op_gNeD {X : Cx} (hu : X.A.units + 64 < cLine) : OpR X (compareOp .NotEq) rNeDA := op_ne_dictA (by omega)
theorem valV_nd : ∀ {kvs : List (Key × V)} {p : Key × V}, (kvs.map (·.1)).Nodup → p ∈ kvs → valV kvs p.1 = some p.2
  | q :: r, p, hn, hp => by
    rw [List.map_cons, List.nodup_cons] at hn
    rcases List.mem_cons.mp hp with rfl | hp
    · exact valV_pos rfl
    · rw [valV_neg (fun e => hn.1 (by rw [e]; exact List.mem_map.mpr ⟨p, hp, rfl⟩))]
      exact valV_nd hn.2 hp
theorem w_neD {H : Hp} {Q : VK} {a b : Addr} {kvs : List (Key × V)} {ys : List Str} {M : Nat} (ha : H a = some (.dK kvs)) (hb : H b = some (.dK kvs)) (d : DicOk kvs ys M) (k : Q (.bl false) H) : rNeDA (.ref a) (.ref b) H Q :=
  ⟨a, b, kvs, kvs, rfl, rfl, ha, hb, rfl, fun p hp => by
    obtain ⟨s, n, rfl, _, _⟩ := d.ok p hp
    exact ⟨valV_nd d.nd hp, rfl⟩, k⟩
/-! a dict's items as a list, two such lists compared -/
def valD : V → PyData
  | .int i => .int i
  | _ => .none
def keyD : Key → PyData
  | .inl i => .int i
  | .inr s => .str s
def itD (kvs : List (Key × V)) : List PyData := kvs.map fun p => .tuple [keyD p.1, valD p.2]
theorem itD_ok : ∀ {kvs : List (Key × V)}, (∀ p ∈ kvs, ∃ (s : Str) (n : Nat), p = (Sum.inr s, V.int (n : Nat)) ∧ Low s) → PyData.canLayAll0 (itD kvs) = true ∧ PyData.depthAll (itD kvs) ≤ 1
  | [], _ => ⟨rfl, by decide⟩
  | p :: r, h => by
    obtain ⟨h1, h2⟩ := itD_ok (kvs := r) (fun q hq => h q (List.mem_cons_of_mem _ hq))
    obtain ⟨s, n, rfl, hs⟩ := h p List.mem_cons_self
    have ok : PyData.strOk s = true := by
      unfold PyData.strOk
      rw [← Array.all_toList, List.all_eq_true]
      intro c hc
      have := hs c hc
      exact decide_eq_true (by omega)
    refine ⟨?_, ?_⟩
    · show PyData.canLayAll0 (PyData.tuple [PyData.str s, PyData.int n] :: itD r) = true
      simp [PyData.canLayAll0, PyData.canLay0, ok, h1]
    · show PyData.depthAll (PyData.tuple [PyData.str s, PyData.int n] :: itD r) ≤ 1
      simp only [PyData.depthAll, PyData.depth]
      omega
theorem itD_dp {K : PySem.W.Frag} {H : Hp} : ∀ {ts : List Addr} {kvs : List (Key × V)}, (∀ p ∈ kvs, ∃ (s : Str) (n : Nat), p = (Sum.inr s, V.int (n : Nat)) ∧ Low s) → Paired (fun (t : Addr) (q : Key × V) => H t = some (.tup [kV q.1, q.2])) ts kvs → DpAll K H (ts.map V.ref) (itD kvs)
  | _, [], _, .nil => .nil
  | t :: ts, p :: r, h, .cons a b => by
    have ih := itD_dp (K := K) (fun q hq => h q (List.mem_cons_of_mem _ hq)) b
    obtain ⟨s, n, rfl, _⟩ := h p List.mem_cons_self
    exact .cons (.tup (st_of a) (.cons (.str s) (.cons (.int n) .nil))) ih
theorem w_neSame {K : PySem.W.Frag} {H : Hp} {Q : VK} {x y : V} {d : PyData} (h1 : Dp K H x d) (h2 : Dp K H y d) (s : SeqAt.shaped d = true) (k : Q (.bl false) H) : gNe K x y H Q := by
  refine .inr ⟨d, d, h1, h2, s, s, ?_⟩
  rw [PySem.SeqAt.eqv_refl d (SeqAt.canLay_of_shaped s)]
  exact k
theorem itD_shaped {kvs : List (Key × V)} (h : ∀ p ∈ kvs, ∃ (s : Str) (n : Nat), p = (Sum.inr s, V.int (n : Nat)) ∧ Low s) : SeqAt.shaped (.list (itD kvs)) = true := by
  obtain ⟨h1, h2⟩ := itD_ok h
  unfold SeqAt.shaped
  rw [Bool.and_eq_true, decide_eq_true_eq]
  refine ⟨by simp [PyData.canLay0, h1], ?_⟩
  simp only [PyData.depth]
  omega
theorem DicOk.low {kvs : List (Key × V)} {ys : List Str} {M : Nat} (h : DicOk kvs ys M) : ∀ p ∈ kvs, ∃ (s : Str) (n : Nat), p = (Sum.inr s, V.int (n : Nat)) ∧ Low s := fun p hp => by
  obtain ⟨s, n, e, _, hs⟩ := h.ok p hp
  exact ⟨s, n, e, hs⟩
def ItmE (Q : VK) (x : V) (H : Hp) : Prop := LiI.rItemsL x H Q
theorem w_itm {te : TE} {σ : L2.St} {H : Hp} {Q : VK} (k : te σ H fun x H1 => ItmE Q x H1) : LiI.tListItems te σ H Q := k
theorem w_itmE {H : Hp} {Q : VK} {d : Addr} {kvs : List (Key × V)} (h : H d = some (.dK kvs)) (k : ∀ (p : Addr) (ts : List Addr) (H' : Hp), H p = none → Sm H H' → H' p = some (.lst (ts.map V.ref)) → Paired (fun (t : Addr) (q : Key × V) => H' t = some (.tup [kV q.1, q.2])) ts kvs → Q (.ref p) H') : ItmE Q (.ref d) H :=
  ⟨d, kvs, rfl, h, fun H' p ts sm np _ _ g pr => k p ts H' np sm g pr⟩
local macro_rules | `(tactic| tm_at "rs") => `(tactic| first | with_reducible refine w_itm ?_ | ((with_reducible refine' w_itmE ?h (fun _ _ _ _ _ _ _ => ?k)); (case h => tm_at "rlk")) | ((with_reducible refine' w_dictD ?h (fun _ _ _ _ _ => ?k)); (case h => tm_at "rlk")) | fail "no")

/-! lists: slices by a number, pairs in step, sums -/
theorem cut_hi {xs : List V} {j : Int} (h0 : 0 ≤ j) : cutV xs none (some j) = xs.take j.toNat := by
  obtain ⟨k, rfl⟩ := Int.eq_ofNat_of_zero_le h0
  unfold cutV
  rw [HT.sIx_none, HT.sIx_nat, List.drop_zero, Nat.sub_zero, Int.toNat_natCast]
  rcases Nat.le_total k xs.length with h | h
  · rw [Nat.min_eq_left h]
  · rw [Nat.min_eq_right h, List.take_length, List.take_of_length_le h]
theorem cut_lo {xs : List V} {j : Int} (h0 : 0 ≤ j) : cutV xs (some j) none = xs.drop j.toNat := by
  obtain ⟨k, rfl⟩ := Int.eq_ofNat_of_zero_le h0
  unfold cutV
  rw [HT.sIx_none, HT.sIx_nat, Int.toNat_natCast]
  rcases Nat.le_total k xs.length with h | h
  · rw [Nat.min_eq_left h, List.take_of_length_le (by rw [List.length_drop]; exact Nat.le_refl _)]
  · rw [Nat.min_eq_right h, List.drop_length, List.take_nil, List.drop_of_length_le h]
theorem pr_of {α β : Type} {F : α → β → Prop} : ∀ {xs : List α}, (∀ x ∈ xs, ∃ y, F x y) → ∃ ys, Paired F xs ys
  | [], _ => ⟨[], .nil⟩
  | x :: xs, h => by
    obtain ⟨y, hy⟩ := h x List.mem_cons_self
    obtain ⟨ys, hys⟩ := pr_of (xs := xs) fun z hz => h z (List.mem_cons_of_mem _ hz)
    exact ⟨y :: ys, .cons hy hys⟩
theorem pr_take {α β : Type} {F : α → β → Prop} : ∀ {xs : List α} {ys : List β} (n : Nat), Paired F xs ys → Paired F (xs.take n) (ys.take n)
  | _, _, 0, _ => by
    rw [List.take_zero, List.take_zero]
    exact .nil
  | _, _, n + 1, .nil => .nil
  | _, _, n + 1, .cons a b => .cons a (pr_take n b)
theorem pr_drop {α β : Type} {F : α → β → Prop} : ∀ {xs : List α} {ys : List β} (n : Nat), Paired F xs ys → Paired F (xs.drop n) (ys.drop n)
  | _, _, 0, h => h
  | _, _, n + 1, .nil => .nil
  | _, _, n + 1, .cons a b => pr_drop n b
theorem pr_rev {α β : Type} {F : α → β → Prop} : ∀ {xs : List α} {ys : List β}, Paired F xs ys → Paired F xs.reverse ys.reverse
  | _, _, .nil => .nil
  | _, _, .cons a b => by
    rw [List.reverse_cons, List.reverse_cons]
    exact (pr_rev b).snoc a
theorem sum_app : ∀ (a b : List Int), (a ++ b).sum = a.sum + b.sum
  | [], b => by rw [List.nil_append, List.sum_nil, Int.zero_add]
  | x :: a, b => by rw [List.cons_append, List.sum_cons, List.sum_cons, sum_app a b, Int.add_assoc]
theorem sum_rev : ∀ a : List Int, a.reverse.sum = a.sum
  | [] => rfl
  | x :: a => by rw [List.reverse_cons, sum_app, sum_rev a, List.sum_cons, List.sum_cons, List.sum_nil, Int.add_zero, Int.add_comm]
theorem sum_cut (a : List Int) (n : Nat) : (a.take n).sum + (a.drop n).sum = a.sum := by
  rw [← sum_app, List.take_append_drop]
theorem w_repL {H : Hp} {Q : VK} {l : Addr} {xs : List V} {j : Int} (h : H l = some (.lst xs)) (h0 : 0 ≤ j) (h1 : j ≤ 1000) (z : xs.length ≤ 100) (k : ∀ p H', H p = none → Sm H H' → H' p = some (.lst (List.replicate j.toNat xs).flatten) → Q (.ref p) H') : gMul (.ref l) (.int j) H Q :=
  .inr (.inr ⟨l, j, _, rfl, rfl, h, by omega, by omega, sz_of (by
    have := Nat.mul_le_mul z (show j.toNat ≤ 1000 by omega)
    omega), fun p hp => k p _ hp (sm_new hp) upd_same⟩)
theorem mem_rep {xs : List V} {n : Nat} {x : V} (h : x ∈ (List.replicate n xs).flatten) : x ∈ xs := by
  obtain ⟨l, hl, hx⟩ := List.mem_flatten.mp h
  rw [(List.mem_replicate.mp hl).2] at hx
  exact hx
theorem rep_pos {xs : List V} {n : Nat} (hn : 0 < n) (h : 0 < xs.length) : 0 < (List.replicate n xs).flatten.length := by
  obtain ⟨x, hx⟩ := List.exists_mem_of_length_pos h
  exact List.length_pos_of_mem (List.mem_flatten.mpr ⟨xs, List.mem_replicate.mpr ⟨by omega, rfl⟩, hx⟩)
/-! both ways of an if lead to one place -/
theorem w_ifJ {t : TT} {A B : TS} {n0 c d : L2.St → Hp → Prop} {r : VK} {σ : L2.St} {H : Hp} (J : L2.St → Hp → Prop) (key : ∀ σ' H', J σ' H' → NX (En n0 r c d) σ' H') (body : ∀ n : L2.St → Hp → Prop, (∀ σ' H', J σ' H' → n σ' H') → tIfS t A B (En n r c d) σ H) : tIfS t A B (En n0 r c d) σ H := body n0 key

/-! rows of a program -/
inductive Rw where
  | up (j : Nat)
  | dn (j : Nat)
  | br (j g : Nat)
  | go (g : Nat)
  | st
deriving DecidableEq
def Rw.vs : Rw → List V
  | .up j => [.str "raise", .int (j : Int)]
  | .dn j => [.str "lower", .int (j : Int)]
  | .br j g => [.str "if", .int (j : Int), .int (g : Int)]
  | .go g => [.str "go", .int (g : Int)]
  | .st => [.str "stop"]
def Rw.ds : Rw → List PyData
  | .up j => [.str "raise", .int (j : Int)]
  | .dn j => [.str "lower", .int (j : Int)]
  | .br j g => [.str "if", .int (j : Int), .int (g : Int)]
  | .go g => [.str "go", .int (g : Int)]
  | .st => [.str "stop"]
theorem Rw.tpl {H : Hp} : ∀ r : Rw, TpL H r.ds r.vs
  | .up _ => tpl_cons tpd_s (tpl_cons tpd_i tpl_nil)
  | .dn _ => tpl_cons tpd_s (tpl_cons tpd_i tpl_nil)
  | .br _ _ => tpl_cons tpd_s (tpl_cons tpd_i (tpl_cons tpd_i tpl_nil))
  | .go _ => tpl_cons tpd_s (tpl_cons tpd_i tpl_nil)
  | .st => tpl_cons tpd_s tpl_nil
def Rw.ok (b n : Nat) : Rw → Prop
  | .up j => j < b
  | .dn j => j < b
  | .br j g => j < b ∧ g < n
  | .go g => g < n
  | .st => True
theorem Rw.ok_up {b n n' : Nat} (l : n ≤ n') : ∀ {r : Rw}, r.ok b n → r.ok b n'
  | .up _, h => h
  | .dn _, h => h
  | .br _ _, h => ⟨h.1, Nat.lt_of_lt_of_le h.2 l⟩
  | .go _, h => Nat.lt_of_lt_of_le h l
  | .st, h => h
def Rw.ends : Rw → Prop
  | .go _ => True
  | .st => True
  | _ => False
def RwAt (H : Hp) (v : V) (r : Rw) : Prop := ∃ p, v = .ref p ∧ H p = some (.tup r.vs)
theorem RwAt.tk {H H' : Hp} {v : V} {r : Rw} (h : RwAt H v r) (e : Tk H H') : RwAt H' v r := by
  obtain ⟨p, rfl, q⟩ := h
  exact ⟨p, rfl, e _ _ q⟩
abbrev RwsAt (H : Hp) (vs : List V) (rs : List Rw) : Prop := Paired (RwAt H) vs rs
theorem RwsAt.tk {H H' : Hp} {vs : List V} {rs : List Rw} (h : RwsAt H vs rs) (e : Tk H H') : RwsAt H' vs rs := paired_mono (fun _ _ q => q.tk e) h
def RwsOk (b n : Nat) (rs : List Rw) : Prop := ∀ r ∈ rs, r.ok b n
theorem RwsOk.up {b n n' : Nat} {rs : List Rw} (h : RwsOk b n rs) (l : n ≤ n') : RwsOk b n' rs := fun r hr => Rw.ok_up l (h r hr)
theorem RwsOk.app {b n : Nat} {rs qs : List Rw} (h : RwsOk b n rs) (k : RwsOk b n qs) : RwsOk b n (rs ++ qs) := fun r hr => by
  rcases List.mem_append.mp hr with hr | hr
  · exact h r hr
  · exact k r hr
theorem RwsOk.nil {b n : Nat} : RwsOk b n [] := fun r hr => by cases hr
theorem RwsOk.one {b n : Nat} {r : Rw} (o : r.ok b n) : RwsOk b n [r] := fun q hq => by
  rw [List.mem_singleton.mp hq]
  exact o
theorem RwsOk.cons {b n : Nat} {r : Rw} {rs : List Rw} (o : r.ok b n) (h : RwsOk b n rs) : RwsOk b n (r :: rs) := fun q hq => by
  rcases List.mem_cons.mp hq with rfl | hq
  · exact o
  · exact h q hq
theorem rw_one {H : Hp} {p : Addr} {r : Rw} (h : H p = some (.tup r.vs)) : RwAt H (.ref p) r := ⟨p, rfl, h⟩
/-- the rows of a program of b boxes -/
structure Prg (b : Nat) (rs : List Rw) : Prop where
  b1 : 1 ≤ b
  b5 : b ≤ 5
  ok : RwsOk b rs.length rs
  len : rs.length ≤ 14
  fin : ∃ us r, rs = us ++ [r] ∧ r.ends
theorem Prg.pos {b : Nat} {rs : List Rw} (h : Prg b rs) : 1 ≤ rs.length := by
  obtain ⟨us, v, q, z⟩ := h.fin
  rw [q, List.length_append]
  exact Nat.le_add_left 1 _
/-- a program's own object -/
def PrC (K : PySem.W.Frag) (C : Addr) : Prop := ClsN K "Program" C ["boxes", "rows"]
def PrgAt (K : PySem.W.Frag) (H : Hp) (v : V) (b : Nat) (rs : List Rw) : Prop := ∃ p C dx t vs, v = .ref p ∧ PrC K C ∧ H p = some (.ins C dx [("boxes", .int (b : Nat)), ("rows", .ref t)]) ∧ H t = some (.tup vs) ∧ RwsAt H vs rs
theorem PrgAt.sm {K : PySem.W.Frag} {H H' : Hp} {v : V} {b : Nat} {rs : List Rw} (h : PrgAt K H v b rs) (e : Sm H H') : PrgAt K H' v b rs := by
  obtain ⟨p, C, dx, t, vs, rfl, c, q, ht, hr⟩ := h
  exact ⟨p, C, dx, t, vs, rfl, c, e _ _ q, e _ _ ht, hr.tk (Tk.sm e)⟩
theorem PrgAt.kp {K : PySem.W.Frag} {H H' : Hp} {v : V} {b : Nat} {rs : List Rw} {a : Addr} {ys : List V} (h : PrgAt K H v b rs) (ha : H a = some (.lst ys)) (e : Kp a H H') : PrgAt K H' v b rs := by
  obtain ⟨p, C, dx, t, vs, rfl, c, q, ht, hr⟩ := h
  exact ⟨p, C, dx, t, vs, rfl, c, e _ _ (by intro z; rw [z, ha] at q; cases q) q, Tk.kp ha e _ _ ht, hr.tk (Tk.kp ha e)⟩
theorem PrgAt.kb {K : PySem.W.Frag} {H H' : Hp} {v : V} {b : Nat} {rs : List Rw} {a : Addr} (h : PrgAt K H v b rs) (ha : BoxAt H a) (e : Kp a H H') : PrgAt K H' v b rs := by
  obtain ⟨x, s, hb, _⟩ := ha
  exact h.kp hb e
theorem PrgAt.kn {K : PySem.W.Frag} {H H' : Hp} {v : V} {b : Nat} {rs : List Rw} {a : Addr} (h : PrgAt K H v b rs) (ha : H a = none) (e : Kp a H H') : PrgAt K H' v b rs := by
  obtain ⟨p, C, dx, t, vs, rfl, c, q, ht, hr⟩ := h
  exact ⟨p, C, dx, t, vs, rfl, c, e _ _ (ne_of_none q ha) q, Tk.kn ha e _ _ ht, hr.tk (Tk.kn ha e)⟩
local macro_rules | `(tactic| tm_at "rpg") => `(tactic| first | with_reducible assumption | ((refine' PrgAt.sm ?sa ?sb); (case sb => with_reducible assumption); (case sa => tm_at "rpg")) | ((refine' PrgAt.kb ?sa ?sc ?sb); (case sb => with_reducible assumption); (case sc => tm_at "rbx"); (case sa => tm_at "rpg")) | ((refine' PrgAt.kp ?sa ?sc ?sb); (case sb => with_reducible assumption); (case sc => tm_at "rlk"); (case sa => tm_at "rpg")) | fail "no")
theorem w_fBoxes {K : PySem.W.Frag} {H : Hp} {Q : VK} {v : V} {b : Nat} {rs : List Rw} (h : PrgAt K H v b rs) (k : Q (.int (b : Nat)) H) : FldE K "boxes" Q v H := by
  obtain ⟨p, C, dx, t, vs, rfl, c, q, ht, hr⟩ := h
  exact ⟨p, C, dx, _, _, rfl, q, c.cl, c.na _ (by simp), rfl, k⟩
theorem w_fRows {K : PySem.W.Frag} {H : Hp} {Q : VK} {v : V} {b : Nat} {rs : List Rw} (h : PrgAt K H v b rs) (k : ∀ t vs, H t = some (.tup vs) → RwsAt H vs rs → Q (.ref t) H) : FldE K "rows" Q v H := by
  obtain ⟨p, C, dx, t, vs, rfl, c, q, ht, hr⟩ := h
  exact ⟨p, C, dx, _, _, rfl, q, c.cl, c.na _ (by simp), rfl, k t vs ht hr⟩
local macro_rules | `(tactic| tm_at "rs") => `(tactic| first | ((with_reducible refine' w_fBoxes ?h ?k); (case h => tm_at "rpg")) | ((with_reducible refine' w_fRows ?h (fun _ _ _ _ => ?k)); (case h => tm_at "rpg")) | fail "no")
/-! a row's word -/
def Rw.word : Rw → Str
  | .up _ => "raise"
  | .dn _ => "lower"
  | .br _ _ => "if"
  | .go _ => "go"
  | .st => "stop"
theorem Rw.vs_word (r : Rw) : ∃ l, r.vs = .str r.word :: l := by cases r <;> exact ⟨_, rfl⟩
theorem w_ixRow {K : PySem.W.Frag} {H : Hp} {Q : VK} {p : Addr} {vs : List V} {rs : List Rw} {k : Nat} {r : Rw} (h : SqL K H p vs ∨ SqT K H p vs) (hr : RwsAt H vs rs) (hk : rs[k]? = some r) (q : ∀ t, H t = some (.tup r.vs) → Q (.ref t) H) : rIx K (.ref p) (.int (k : Int)) H Q := by
  obtain ⟨v, e1, t, rfl, ht⟩ := paired_getR hr hk
  rcases h with h | h
  · exact w_ixL' h (atI_nat e1) (q t ht)
  · exact w_ixT h (atI_nat e1) (q t ht)
/-! one step -/
def aftr (rs : List Rw) (k : Nat) (cs : List Nat) : Option (Nat × List Nat) :=
  match rs[k]? with
  | some (.up j) => some (k + 1, cs.set j (cs.getD j 0 + 1))
  | some (.dn j) => if cs.getD j 0 = 0 then none else some (k + 1, cs.set j (cs.getD j 0 - 1))
  | some (.br j g) => some (if cs.getD j 0 = 0 then g else k + 1, cs)
  | some (.go g) => some (g, cs)
  | _ => none
theorem aft_up {rs : List Rw} {k j : Nat} {cs : List Nat} (h : rs[k]? = some (.up j)) : aftr rs k cs = some (k + 1, cs.set j (cs.getD j 0 + 1)) := by
  unfold aftr
  rw [h]
theorem aft_dn0 {rs : List Rw} {k j : Nat} {cs : List Nat} (h : rs[k]? = some (.dn j)) (z : cs.getD j 0 = 0) : aftr rs k cs = none := by
  unfold aftr
  rw [h]
  exact if_pos z
theorem aft_dn {rs : List Rw} {k j : Nat} {cs : List Nat} (h : rs[k]? = some (.dn j)) (z : cs.getD j 0 ≠ 0) : aftr rs k cs = some (k + 1, cs.set j (cs.getD j 0 - 1)) := by
  unfold aftr
  rw [h]
  exact if_neg z
theorem aft_br0 {rs : List Rw} {k j g : Nat} {cs : List Nat} (h : rs[k]? = some (.br j g)) (z : cs.getD j 0 = 0) : aftr rs k cs = some (g, cs) := by
  unfold aftr
  rw [h]
  show some (if cs.getD j 0 = 0 then g else k + 1, cs) = _
  rw [if_pos z]
theorem aft_br {rs : List Rw} {k j g : Nat} {cs : List Nat} (h : rs[k]? = some (.br j g)) (z : cs.getD j 0 ≠ 0) : aftr rs k cs = some (k + 1, cs) := by
  unfold aftr
  rw [h]
  show some (if cs.getD j 0 = 0 then g else k + 1, cs) = _
  rw [if_neg z]
theorem aft_go {rs : List Rw} {k g : Nat} {cs : List Nat} (h : rs[k]? = some (.go g)) : aftr rs k cs = some (g, cs) := by
  unfold aftr
  rw [h]
theorem aft_st {rs : List Rw} {k : Nat} {cs : List Nat} (h : rs[k]? = some .st) : aftr rs k cs = none := by
  unfold aftr
  rw [h]
theorem nV_at {cs : List Nat} {j : Nat} (h : j < cs.length) : atI (nV cs) (j : Int) = some (.int (cs.getD j 0 : Nat)) := by
  refine atI_nat (nV_get ?_)
  rw [List.getD_eq_getElem?_getD, List.getElem?_eq_getElem h]
  rfl
theorem set_cut {cs : List Nat} {j : Nat} {c : Nat} (h : j < cs.length) : nV (cs.set j c) = (nV cs).take j ++ (V.int (c : Nat) :: (nV cs).drop (j + 1)) := by
  rw [List.set_eq_take_append_cons_drop, if_pos h, nV_take, nV_drop, nV_app]
  rfl
/-- contents put together anew -/
theorem set_cat {cs : List Nat} {j : Nat} {c : Int} {n : Nat} (h : j < cs.length) (e : c = (n : Nat)) : cutV (nV cs) none (some (j : Int)) ++ [V.int c] ++ cutV (nV cs) (some ((j : Int) + 1)) none = nV (cs.set j n) := by
  rw [cut_hi (by omega), cut_lo (by omega), set_cut h, e, Int.toNat_natCast, show ((j : Int) + 1).toNat = j + 1 by omega, List.append_assoc]
  rfl
theorem cut_len {xs : List V} {lo hi : Option Int} : (cutV xs lo hi).length ≤ xs.length := by
  unfold cutV
  rw [List.length_take, List.length_drop]
  omega
def StdAt (H : Hp) (v : V) (k : Nat) (cs : List Nat) : Prop := ∃ p t, v = .ref p ∧ H p = some (.tup [.int (k : Nat), .ref t]) ∧ H t = some (.tup (nV cs))
theorem StdAt.tk {H H' : Hp} {v : V} {k : Nat} {cs : List Nat} (h : StdAt H v k cs) (e : Tk H H') : StdAt H' v k cs := by
  obtain ⟨p, t, rfl, a, b⟩ := h
  exact ⟨p, t, rfl, e _ _ a, e _ _ b⟩
def OStd (H : Hp) (v : V) : Option (Nat × List Nat) → Prop
  | none => v = .non
  | some (k, cs) => StdAt H v k cs
theorem OStd.tk {H H' : Hp} {v : V} : ∀ {o : Option (Nat × List Nat)}, OStd H v o → Tk H H' → OStd H' v o
  | none, h, _ => h
  | some (_, _), h, e => StdAt.tk h e
/-! the table of words -/
def Rw.kinds : Rw → List Str
  | .up _ => [Str.ofString "box"]
  | .dn _ => [Str.ofString "box"]
  | .br _ _ => [Str.ofString "box", Str.ofString "goal"]
  | .go _ => [Str.ofString "goal"]
  | .st => []
abbrev shpL : List (Str × List Str) := [(Str.ofString "raise", [Str.ofString "box"]), (Str.ofString "lower", [Str.ofString "box"]), (Str.ofString "if", [Str.ofString "box", Str.ofString "goal"]), (Str.ofString "go", [Str.ofString "goal"]), (Str.ofString "stop", [])]
theorem Rw.shp : ∀ r : Rw, (r.word, r.kinds) ∈ shpL
  | .up _ => List.mem_cons_self
  | .dn _ => List.mem_cons_of_mem _ List.mem_cons_self
  | .br _ _ => List.mem_cons_of_mem _ (List.mem_cons_of_mem _ List.mem_cons_self)
  | .go _ => List.mem_cons_of_mem _ (List.mem_cons_of_mem _ (List.mem_cons_of_mem _ List.mem_cons_self))
  | .st => List.mem_cons_of_mem _ (List.mem_cons_of_mem _ (List.mem_cons_of_mem _ (List.mem_cons_of_mem _ List.mem_cons_self)))
theorem Rw.tail_int (r : Rw) : ∀ x ∈ r.vs.drop 1, ∃ n : Nat, x = .int (n : Nat) := by
  intro x hx
  cases r
  all_goals
    simp only [Rw.vs, List.drop_succ_cons, List.drop_zero, List.mem_cons, List.not_mem_nil, or_false] at hx
  all_goals first | exact ⟨_, hx⟩ | (rcases hx with h | h <;> exact ⟨_, h⟩)
theorem w_nieT {K : PySem.W.Frag} {w : World} {Q : VK} {H : Hp} {a : Addr} {l : List (Str × List Str)} {z : Str × List Str} (d : KDt K w a l) (hz : z ∈ l) (k : Q (.bl false) H) : NiE K w Q (.str z.1) (.ref a) H := by
  obtain ⟨t, hv, _⟩ := d.2 z hz
  exact ⟨a, z.1, _, rfl, rfl, d.1, hv, k⟩
def KgE (K : PySem.W.Frag) (w : World) (Q : VK) (x y : V) (H2 : Hp) : Prop := ∃ a z v, x = .ref a ∧ y = .str z ∧ (a == sysModules) = false ∧ KDct K w a z v ∧ Q v H2
theorem w_kg {K : PySem.W.Frag} {w : World} {td ty : TE} {σ : L2.St} {H : Hp} {Q : VK} (k : td σ H fun x H1 => ty σ H1 fun y H2 => KgE K w Q x y H2) : tKGet K w td ty σ H Q := k
theorem w_kge {K : PySem.W.Frag} {w : World} {Q : VK} {H : Hp} {a : Addr} {l : List (Str × List Str)} {z : Str × List Str} (d : KDt K w a l) (hz : z ∈ l) (k : ∀ t, SqT K H t (z.2.map V.str) → Q (.ref t) H) : KgE K w Q (.ref a) (.str z.1) H := by
  obtain ⟨t, hv, hs⟩ := d.2 z hz
  exact ⟨a, z.1, _, rfl, rfl, d.1, hv, k t (hs H)⟩
local macro_rules | `(tactic| tm_at "rs") => `(tactic| first | with_reducible refine w_kg ?_ | fail "no")
theorem w_kgA {K : PySem.W.Frag} {w : World} {Q : VK} {H : Hp} {a : Addr} {l : List (Str × List Str)} {z : Str × List Str} (d : KDt K w a l) (hz : z ∈ l) (k : ∀ t, (∀ H, SqT K H t (z.2.map V.str)) → Q (.ref t) H) : KgE K w Q (.ref a) (.str z.1) H := by
  obtain ⟨t, hv, hs⟩ := d.2 z hz
  exact ⟨a, z.1, _, rfl, rfl, d.1, hv, k t hs⟩
local macro_rules | `(tactic| tm_at "rrw") => `(tactic| first | with_reducible assumption | ((refine' RwsAt.tk ?sa ?sb); (case sa => with_reducible assumption); (case sb => tm_at "rtk")) | fail "no")
local macro_rules | `(tactic| tm_at "rstd") => `(tactic| first | with_reducible assumption | ((refine' StdAt.tk ?sa ?sb); (case sa => with_reducible assumption); (case sb => tm_at "rtk")) | fail "no")
theorem Rw.word_st (r : Rw) : r.word = Str.ofString "stop" ↔ r = .st := by
  cases r
  · exact ⟨fun h => absurd (show Str.ofString "raise" = Str.ofString "stop" from h) (by decide +kernel), fun h => by cases h⟩
  · exact ⟨fun h => absurd (show Str.ofString "lower" = Str.ofString "stop" from h) (by decide +kernel), fun h => by cases h⟩
  · exact ⟨fun h => absurd (show Str.ofString "if" = Str.ofString "stop" from h) (by decide +kernel), fun h => by cases h⟩
  · exact ⟨fun h => absurd (show Str.ofString "go" = Str.ofString "stop" from h) (by decide +kernel), fun h => by cases h⟩
  · exact ⟨fun _ => rfl, fun _ => rfl⟩
local macro_rules | `(tactic| tm_at "rs") => `(tactic| first | ((with_reducible refine' w_ixRow ?h ?i ?j (fun _ _ => ?k)); (case i => tm_at "rrw"); (case h => first | exact .inl (by tm_at "rsq") | exact .inr (by tm_at "rst")); (case j => assumption)) | fail "no")

/-! a walk over a list or a tuple -/
theorem pi_or {X : Cx} {tg l : Expr} {t1 t2 : TI} (h1 : PI X tg l t1) (h2 : PI X tg l t2) : PI X tg l (fun σ H R => t1 σ H R ∨ t2 σ H R) := ⟨fun pins s σ H R I h => h.elim (fun h => h1.run pins s σ H R I h) (fun h => h2.run pins s σ H R I h)⟩

/-! enumerate over a tuple -/
section
open AutoSeq1 (wpAny_loadPart')
theorem meets_enumT (l : Addr) (items : Array Value) (n : Nat) (dct : Option Addr) (sl : Array (Option Value)) :
    Meets (Builtin.«enumerate.__new__» ⟨[.type "enumerate", .ref l], []⟩) (fun _ R s => s.heap.get? l = some { cls := .type "tuple", dict := dct, data := .seq items n, slots := sl } ∧
      R (.ok (.ret (.ref (s.heap.push { cls := .type "tuple_iterator", data := .fields #[.ref l, .int 0 0] }).objs.size)))
        { s with heap := (s.heap.push { cls := .type "tuple_iterator", data := .fields #[.ref l, .int 0 0] }).push { cls := .type "enumerate", data := .fields #[.none, .bool false, .ref s.heap.objs.size, rawInt 0, .none, .none] } }) :=
  .of_wp fun prog w A R s h => by
    obtain ⟨hp, g, d, tk, os⟩ := s; obtain ⟨hl, h⟩ := h
    have hsub := sub_enumerate
    have hL : Heap.IsTuple (Shared.heap ⟨hp, g, d, tk, os⟩) l items := ⟨_, hl, rfl, n, rfl⟩
    wp_walk using wpAny_loadPart' hl
    refine wpAny_stack_any fun st => PySem.wpAny_pure ?_
    split
    · rename_i c _ _ _ _ _
      cases (c == Value.type "enumerate")
      · wp_walk using wpAny_loadPart' hl, wpAny_pyIter_tuple hL
        exact ⟨_, rfl, h⟩
      · wp_walk using wpAny_loadPart' hl, wpAny_pyIter_tuple hL
        exact ⟨_, rfl, h⟩
    · wp_walk using wpAny_loadPart' hl, wpAny_pyIter_tuple hL
      exact ⟨_, rfl, h⟩
end
section
variable {prog : Program} {w : World} {A : Around} {E : Value → Shared → Prop} {s : Shared}
theorem call_enumT {l : Addr} {items : Array Value} {Q : Value → Shared → Prop} (hL : s.heap.IsTuple l items)
    (h : ∀ h', IsEnum h' (s.heap.objs.size + 1) s.heap.objs.size 0 .none → h'.IsTupleIter s.heap.objs.size l 0 → h'.objs.size = s.heap.objs.size + 2 →
      (∀ b o, s.heap.get? b = some o → h'.get? b = some o) → Q (.ref (s.heap.objs.size + 1)) { s with heap := h' }) :
    wpAny (model prog w) A (call (.type "enumerate") [.ref l]) Q E s := by
  obtain ⟨⟨c, dct, dt, sl⟩, hl, hc, n, hd⟩ := hL
  replace hc : c = .type "tuple" := hc
  replace hd : dt = .seq items n := hd
  subst hc hd
  refine callType_new PySem.F.called_enumerate (by decide) (PySem.F.typeCall_enumerate_1 _) (PySem.F.newCall_enumerate_1 _) (fun obj => PySem.F.args_object_init_2 obj _) PySem.F.entry_enumerate_new
    (meets_enumT l items n dct sl) ⟨hl, ?_⟩
  have hz : (s.heap.push { cls := .type "tuple_iterator", data := .fields #[.ref l, .int 0 0] }).objs.size = s.heap.objs.size + 1 := Heap.size_push ..
  show _ ∧ _
  rw [hz]
  have he : IsEnum ((s.heap.push { cls := .type "tuple_iterator", data := .fields #[.ref l, .int 0 0] }).push
      { cls := .type "enumerate", data := .fields #[.none, .bool false, .ref s.heap.objs.size, rawInt 0, .none, .none] }) (s.heap.objs.size + 1) s.heap.objs.size 0 .none := by
    have := Heap.get?_push_size (s.heap.push { cls := .type "tuple_iterator", data := .fields #[.ref l, .int 0 0] })
      (o := { cls := .type "enumerate", data := .fields #[.none, .bool false, .ref s.heap.objs.size, rawInt 0, .none, .none] }) rfl
    rw [hz] at this; exact this
  refine ⟨⟨_, he, rfl⟩, h _ he ⟨_, Heap.get?_push_of_some _ (Heap.get?_push_size _ rfl), rfl, rfl⟩ (by rw [Heap.size_push, hz]) fun b o x => Heap.get?_push_of_some _ (Heap.get?_push_of_some _ x)⟩
end
section
variable {prog : Program} {w : World} {A : Around} {E : Value → Shared → Prop} {s : Shared}
theorem wpAny_pyNext_enum_endT {e it l : Addr} {i : Nat} {items : Array Value} {old : Value} {Q : Option Value → Shared → Prop} (hh : A.handled = none)
    (he : IsEnum s.heap e it i old) (hit : s.heap.IsTupleIter it l i) (hl : s.heap.IsTuple l items) (hx : items[i]? = none)
    (hQ : ∀ h', Heap.ExtBut it s.heap h' → Q none { s with heap := h' }) : wpAny (model prog w) A (pyNext (.ref e)) Q E s := by
  have hT : s.TypeIs (.ref e) "enumerate" := ⟨_, he, rfl⟩
  unfold pyNext
  refine PySem.wpAny_bind (wpAny_attempt (wpAny_callSpecial?_slot (name := Str.ofString "__next__") hT PySem.F.slot_enumerate_next
    (wpAny_call_entry PySem.F.slot_enumerate_next hT PySem.F.entry_enumerate_next ?_ (PySem.F.args_enumerate_next_1 _))))
  show wpAny _ _ (field (.ref e) 2 >>= _) _ _ _
  refine PySem.wpAny_bind (wpAny_field he rfl (x := .ref it) rfl ?_)
  refine PySem.wpAny_bind (_root_.RZ.nextOf_tuple_end hh hit hl hx fun h' x he' hx' => ?_)
  obtain ⟨o, ho, hc⟩ := hx'
  refine PySem.wpAny_bind (wpAny_isInstance (T := "StopIteration") (b := true) ⟨o, ho, hc⟩ isSubtype_stop ?_)
  exact PySem.wpAny_pure (hQ _ he')
end
def ItTE (K : PySem.W.Frag) (a : Addr) : It :=
  ⟨fun i H => ∃ (xs : List V) (x : V), SqT K H a xs ∧ xs[i]? = some x, fun i H v H' => ∃ T x, v = .ref T ∧ H T = none ∧ H' = upd H T (.tup [.int (i : Nat), x]) ∧ ∀ xs, SqT K H a xs → xs[i]? = some x, fun i H => ∃ xs : List V, SqT K H a xs ∧ xs.length ≤ i⟩
theorem turn_TE {P : Program} {w : World} {K : PySem.W.Frag} {elts : List Expr} {kk : Nat} {tpos : Pos} (a e it : Addr) :
    Turn P w K (.Tuple elts kk tpos) (ItTE K a) [e, it] e (fun i h => (∃ old, IsEnum h e it ((i : Nat) : Int) old) ∧ h.IsTupleIter it a i ∧ e ≠ it ∧ e ≠ a ∧ a ≠ it) where
  mem := List.mem_cons_self
  obj := by
    rintro i h ⟨⟨old, he⟩, ⟨o, ho, hc, hd⟩, _⟩ b hb
    rcases (show b = e ∨ b = it by simpa using hb) with rfl | rfl
    · exact ⟨_, he, fun v q => nomatch q⟩
    · exact ⟨o, ho, fun v q => by rw [hd] at q; cases q⟩
  keep := by
    rintro i h h' ⟨⟨old, he⟩, ⟨o, ho, r⟩, ne⟩ k
    exact ⟨⟨old, k e (by simp) _ he⟩, ⟨o, k it (by simp) o ho, r⟩, ne⟩
  item := by
    intro X hP hw hK hc i pins s σ H E I hf st hg
    subst hP hw hK
    obtain ⟨⟨old, he⟩, hit, hne, hea, hai⟩ := st
    obtain ⟨xs, x, hq, hx⟩ := hg
    obtain ⟨its, rv, p, _⟩ := I.tuple hq
    obtain ⟨u, hu, ru⟩ := rv.get hx
    have hlen : i < its.length := (List.getElem?_eq_some_iff.mp hu).1
    have hel : e < s.heap.objs.size := Heap.lt_size he
    have hil : it < s.heap.objs.size := by
      obtain ⟨_, q, _⟩ := hit
      exact Heap.lt_size q
    have hef : e ∉ [it, a] := by simp [hne, hea]
    have D := Draws.tuple (prog := X.prog) (w := X.w) (A := X.A.in1) (I.ok.hd hc) it a hai its.toArray
    refine wpAny_pyNext_enum_itemD D he ⟨hit, p⟩ (by simpa using hlen) hne hef fun v h' tk hv ho hit' hT hsz hk => ?_
    have hvu : v = u := by
      have hv : its.toArray[i]? = some v := hv
      rw [show its.toArray[i]? = some u by simpa using hu] at hv
      exact (Option.some.inj hv).symm
    subst hvu
    refine ⟨_, rfl, wpAny_letOwnedTupleGo_enum (prog := X.prog) (w := X.w) (s := { s with heap := h', toks := tk + 1 }) ho fun h'' he' sb => ?_⟩
    have hT2 := (sb.2 _ (Nat.ne_of_gt hel)).trans hT
    have new : ObjOk X.prog X.w (upd H s.heap.objs.size (.tup [.int (i : Nat), x])) h'' s.heap.objs.size (.tup [.int (i : Nat), x]) :=
      ⟨by show 2 ≤ sizeLine; decide, [.int i tk, v], .cons ⟨_, rfl⟩ (.cons ru .nil), ⟨_, hT2, rfl, _, rfl⟩⟩
    have I1 := Inv.turnedNew (t' := tk + 1) I (ch := [e, it]) (fun b ob hb q => (sb.2 b (fun z => hb (by simp [z]))).trans (hk b ob (fun z => hb (by simp [z])) (fun z => hb (by simp [z])) q)) hf (Nat.le_refl _) new
    refine ⟨.ref s.heap.objs.size, _, I1, rfl, ⟨_, x, rfl, I.hok.fresh (Nat.le_refl _), rfl, fun ys hy => by rw [I.tuple_inj hy hq]; exact hx⟩, ⟨⟨v, ?_⟩, ?_, hne, hea, hai⟩, fun b hb => ?_⟩
    · rw [show ((i + 1 : Nat) : Int) = (i : Int) + 1 from rfl]
      exact he'
    · obtain ⟨o, q, r⟩ := hit'.1
      exact ⟨o, (sb.2 it (Ne.symm hne)).trans q, r⟩
    · have hb' : b < s.heap.objs.size := by
        rcases (show b = e ∨ b = it by simpa using hb) with rfl | rfl
        · exact hel
        · exact hil
      rw [upd_ne (Nat.ne_of_lt hb')]
      exact (hf b hb).1
  done := by
    intro X hP hw hK hc i pins s σ H E I hf st hg
    subst hP hw hK
    obtain ⟨⟨old, he⟩, hit, hne, hea, hai⟩ := st
    obtain ⟨xs, hq, hx⟩ := hg
    obtain ⟨its, rv, p, _⟩ := I.tuple hq
    have hl := rv.length
    obtain ⟨f0, f1, f2, f3, f4, f5⟩ := hf it (by simp)
    refine wpAny_pyNext_enum_endT (I.ok.hd hc) he hit p (by simp; omega) fun h' eb => ⟨rfl, I.turned (t' := s.toks) (fun b o hb q => eb b o hb q) f0 f1 f3 f4 f5⟩
  self := fun A i s Q E st h => by
    obtain ⟨⟨_, he⟩, _⟩ := st
    exact wpAny_pyIter_enum he h
def iEnT (K : PySem.W.Frag) (ta : TA) : TI := fun σ H R => ta σ H fun vs H1 => ∃ a xs, vs = [.ref a] ∧ SqT K H1 a xs ∧ R (ItTE K a) H1
theorem pi_enT {X : Cx} {e : Expr} {ta : TA} {p pos tpos : Pos} {elts : List Expr} {kk : Nat} (hg : Gl X "enumerate") (hm : X.mg "enumerate" = none) (ha : PA X [e] ta) (hs : starEach [e] X.env = [(false, eval e X.env)] := by rfl) :
    PI X (.Tuple elts kk tpos) (.Call (.Name "enumerate" p) [e] [] pos) (iEnT X.K ta) := by
  refine ⟨fun pins s σ H R I h => Call_ (ld_blt I hg hm boot_enumerate (PyProof.Rows.callWith_type1 (thn (ha.run pos pins s σ H _ I h) fun us s1 ⟨vs, H1, I1, r1, q1⟩ => ?_) hs rfl))⟩
  obtain ⟨a, xs, rfl, hq, q⟩ := q1
  obtain ⟨u, rfl, ru⟩ := vals1 r1
  obtain rfl : u = Value.ref a := ru
  obtain ⟨its, rv, p1, _⟩ := I1.tuple hq
  obtain ⟨o1, ho1, _⟩ := id p1
  have hal : a < s1.heap.objs.size := Heap.lt_size ho1
  refine call_enumT (items := its.toArray) p1 fun h' he hit hsz hk => wpAny_pyIter_enum he ?_
  have I2 : Inv X pins σ H1 { s1 with heap := h' } := Inv.kept (t' := s1.toks) I1 hk
  refine ⟨s1.heap.objs.size + 1, [s1.heap.objs.size + 1, s1.heap.objs.size], _, _, H1, rfl, I2, turn_TE a (s1.heap.objs.size + 1) s1.heap.objs.size, ⟨⟨.none, he⟩, hit, Nat.succ_ne_self _, Nat.ne_of_gt (Nat.lt_succ_of_lt hal), Nat.ne_of_lt hal⟩, fun b hb => ?_, q⟩
  have hle : s1.heap.objs.size ≤ b := by
    rcases (show b = s1.heap.objs.size + 1 ∨ b = s1.heap.objs.size by simpa using hb) with rfl | rfl
    · exact Nat.le_add_right _ _
    · exact Nat.le_refl _
  exact I1.fpOk hle (I1.hok.fresh hle)
theorem walk_TE {K : PySem.W.Frag} {a : Addr} {xs : List V} : Walk (ItTE K a) xs.length (fun H => SqT K H a xs) (YPair (fun i => some (.int (i : Nat))) (fun i => xs[i]?)) :=
  ⟨fun i H hi h => ⟨xs, _, h, List.getElem?_eq_getElem hi⟩, fun H h => ⟨xs, h, Nat.le_refl _⟩, fun i H v H' hi h y => by
    obtain ⟨T, x, e1, e2, e3, e4⟩ := y
    exact ⟨T, _, x, e1, e2, e3, rfl, e4 xs h⟩⟩
def EtE (K : PySem.W.Frag) (R : It → Hp → Prop) (vs : List V) (H1 : Hp) : Prop := ∃ a xs, vs = [.ref a] ∧ SqT K H1 a xs ∧ R (ItTE K a) H1
theorem w_iEt {K : PySem.W.Frag} {σ : L2.St} {H : Hp} {ta : TA} {R : It → Hp → Prop} (k : ta σ H fun vs H1 => EtE K R vs H1) : iEnT K ta σ H R := k
theorem w_iEte {K : PySem.W.Frag} {H : Hp} {R : It → Hp → Prop} {a : Addr} {xs : List V} (h : SqT K H a xs) (k : R (ItTE K a) H) : EtE K R [.ref a] H := ⟨a, xs, rfl, h, k⟩
theorem loopEt {σ : L2.St} {H : Hp} {D : Ends} {K : PySem.W.Frag} {g : TG} {tb : TS} {a : Addr} {xs : List V} (Pv : Nat → L2.St → Hp → Prop) (h0 : Pv 0 σ H) (hl : ∀ i σ H, i ≤ xs.length → Pv i σ H → SqT K H a xs)
    (hs : ∀ i x T σ H H', i < xs.length → xs[i]? = some x → Pv i σ H → H T = none → Sm H H' → H' T = some (.tup [.int (i : Nat), x]) → g (.ref T) σ H' fun σ2 H2 => tb (En (Pv (i + 1)) (RT D) (NX D) (Pv (i + 1))) σ2 H2)
    (hd : ∀ σ H, Pv xs.length σ H → NX D σ H) : Loop (ItTE K a) g tb D σ H :=
  for_it walk_TE Pv h0 hl (fun i x σ H H' hi p y => by
    obtain ⟨T, u, v, rfl, hT, rfl, h1, h2⟩ := y
    cases h1
    exact hs i v T σ H _ hi h2 p hT (sm_new hT) upd_same) hd
theorem lcEt {σ : L2.St} {H : Hp} {Q : VK} {K : PySem.W.Frag} {g : TG} {tt : TT} {te : TE} {vs : List Nat} {a : Addr} {xs : List V} (Pv : Addr → Nat → Hp → Prop) (h0 : ∀ D H', H D = none → Sm H H' → H' D = some (.lst []) → Pv D 0 H')
    (hl : ∀ D i H', H D = none → i ≤ xs.length → Pv D i H' → SqT K H' a xs)
    (hs : ∀ D i x T H1 H', H D = none → i < xs.length → xs[i]? = some x → Pv D i H1 → H1 T = none → Sm H1 H' → H' T = some (.tup [.int (i : Nat), x]) → g (.ref T) (wipe σ vs) H' fun σ2 H2 => LcGo vs σ σ2 (tt σ2 H2 fun b H3 => if b = true then te σ2 H3 fun y H4 => LcEnd D y (Pv D (i + 1)) H4 else Pv D (i + 1) H3))
    (hd : ∀ D H', H D = none → Pv D xs.length H' → Q (.ref D) H') : LcL (ItTE K a) g tt te vs σ H Q := fun D hD =>
  lc_it walk_TE (Pv D) (h0 D _ hD (sm_new hD) upd_same) (fun i H' hi p => hl D i H' hD hi p) (fun i x H1 H' hi p y => by
    obtain ⟨T, u, v, rfl, hT, rfl, h1, h2⟩ := y
    cases h1
    exact hs D i v T H1 _ hD hi h2 p hT (sm_new hT) upd_same) (fun H' p => hd D H' hD p)
local macro_rules | `(tactic| tm_at "rs") => `(tactic| first | with_reducible refine w_iEt ?_ | ((with_reducible refine' w_iEte ?h ?k); (case h => tm_at "rst")) | fail "no")

/-! f-strings -/
def JoE (ts : List TE) (acc : Str) (σ : L2.St) (Q : Str → Hp → Prop) (x : V) (H : Hp) : Prop := ∃ y : Str, x = .str y ∧ (acc ++ y).length ≤ sizeLine ∧ tJs ts (acc ++ y) σ H Q
def FmE (Q : VK) (x : V) (H : Hp) : Prop := (∃ y : Str, x = .str y ∧ y.length ≤ sizeLine ∧ Q (.str y) H) ∨ ∃ i : Int, x = .int i ∧ i.natAbs.log2 < 1920 ∧ Q (.str (toString i)) H
section
variable {σ : L2.St} {H : Hp} {Q : VK} {QS : Str → Hp → Prop} {ts : List TE} {t : TE} {acc y : Str} {i : Int}
theorem w_js (k : tJs ts Str.empty σ H fun out H1 => Q (.str out) H1) : (fun σ H Q => tJs ts Str.empty σ H fun out H1 => Q (.str out) H1 : TE) σ H Q := k
theorem w_j0 (k : QS acc H) : tJs [] acc σ H QS := k
theorem w_jc (k : t σ H (JoE ts acc σ QS)) : tJs (t :: ts) acc σ H QS := k
theorem w_je (z : (acc ++ y).length ≤ sizeLine) (k : tJs ts (acc ++ y) σ H QS) : JoE ts acc σ QS (.str y) H := ⟨y, rfl, z, k⟩
theorem str_e0 {y : Str} : Str.empty ++ y = y := by
  cases y with
  | mk c =>
    show Str.mk (#[] ++ c) = _
    rw [Array.empty_append]
theorem w_je0 (z : y.length ≤ sizeLine) (k : tJs ts y σ H QS) : JoE ts Str.empty σ QS (.str y) H := ⟨y, rfl, by rw [str_e0]; exact z, by rw [str_e0]; exact k⟩
theorem w_fm (k : t σ H (FmE Q)) : tFmt t σ H Q := k
theorem w_fmS (z : y.length ≤ sizeLine) (k : Q (.str y) H) : FmE Q (.str y) H := .inl ⟨y, rfl, z, k⟩
theorem w_fmI (z : i.natAbs.log2 < 1920) (k : Q (.str (toString i)) H) : FmE Q (.int i) H := .inr ⟨i, rfl, z, k⟩
theorem log_i64 (h : i.natAbs < 2 ^ 64) : i.natAbs.log2 < 1920 := PySem.Spec.log2_small (Nat.lt_of_lt_of_le h (by decide +kernel))
end
theorem tos_le {i : Int} (h : i.natAbs < 2 ^ 64) : (Str.ofString (toString i)).length ≤ 25 := by
  have e := int_text_length_le10 (k := 20) (by decide) (Nat.lt_of_lt_of_le h (show 2 ^ 64 ≤ 10 ^ 20 by decide))
  rw [PySem.ofString_length]
  omega
theorem sz_app {a b : Str} (h : b.length ≤ 25) (k : a.length ≤ 1000) : (a ++ b).length ≤ sizeLine := by
  rw [app_len]
  exact sz_of (by omega)
local macro_rules | `(tactic| tm_at "rsl") => `(tactic| first | with_reducible assumption | exact sz_of (by decide) | (apply sz_of; omega) | ((refine sz_app (tos_le ?h) ?i); (case h => omega); (case i => first | omega | decide)) | ((apply sz_of); (simp only [app_len]); omega) | fail "no")
local macro_rules | `(tactic| tm_at "rs") => `(tactic| first | with_reducible refine w_js ?_ | with_reducible refine w_jc ?_ | with_reducible refine w_j0 ?_ | with_reducible refine w_fm ?_ | ((with_reducible refine w_je0 ?h ?_); (case h => tm_at "rsl")) | ((with_reducible refine w_je ?h ?_); (case h => tm_at "rsl")) | ((with_reducible refine w_fmS ?h ?_); (case h => tm_at "rsl")) | ((with_reducible refine w_fmI ?h ?_); (case h => (apply log_i64; omega))) | fail "no")

/-! own classes: len, repr, str, truth, != of lists of them -/
/-- what is wished of an own method that stands behind a built-in -/
def rUnO (C : Addr) (sp : Sp) (E : XK) (g : V → Prop) : List V → Hp → VK → Prop := fun xs H Q => ∃ a dx fs, xs = [.ref a] ∧ H a = some (.ins C dx fs) ∧ sp [.ref a] H (fun v H' => g v ∧ Q v H') E
def IsLen (v : V) : Prop := ∃ i : Int, v = .int i ∧ 0 ≤ i ∧ i < 2 ^ 63
def IsStr (v : V) : Prop := ∃ z : Str, v = .str z
theorem own_at {X : Cx} {pins : List (Addr × Obj)} {σ : L2.St} {H : Hp} {s : Shared} {a C dx : Addr} {fs : List (Str × V)} (I : Inv X pins σ H s) (ha : H a = some (.ins C dx fs)) : ∃ ox od, PySem.W.InstAt s.heap a ox C od := by
  obtain ⟨mA, J, _⟩ := ins_get I.hok ha
  obtain ⟨od, J, _⟩ := J.look
  exact ⟨_, _, J⟩
section
variable {X : Cx} {CX : CXT} {C : Addr} {n : Nat} {ps : List Str} {sp : Sp} {E : XK}
theorem cr_lenO (G : DefO X.prog X.w X.K X.mg X.base CX C "__len__" n ps sp) (hr : RoomG (n + 1) X.A) (hx : Passes CX X E) : CallR X (.builtin "len") (rUnO C sp E IsLen) := by
  obtain ⟨f, fd, hs, hf, F, hb⟩ := G.ex
  intro pins s σ H xs us Q I rx h
  obtain ⟨a, dx, fs, rfl, ha, h⟩ := h
  obtain ⟨u, rfl, ru⟩ := vals1 rx
  cases ru
  obtain ⟨ox, od, J⟩ := own_at I ha
  obtain ⟨m, hF⟩ := I.fr
  refine PySem.W.len_K hF I.ok.mod.kin J hs hf ?_
  refine wpAny_mono (run_gA F hr.in1 rfl hb hx I (show Vals [V.ref a] [Value.ref a] from .cons rfl .nil) h) (fun r z q => ?_) fun _ _ e => e
  obtain ⟨v, H', I', rv, ⟨i, rfl, h0, h1⟩, q⟩ := q
  obtain ⟨t, rfl⟩ := rv
  exact ⟨⟨h0, h1⟩, .int i, H', I'.tok _, ⟨_, rfl⟩, q⟩
theorem cr_repO (G : DefO X.prog X.w X.K X.mg X.base CX C "__repr__" n ps sp) (hr : RoomG (n + 1) X.A) (hx : Passes CX X E) : CallR X (.builtin "repr") (rUnO C sp E IsStr) := by
  obtain ⟨f, fd, hs, hf, F, hb⟩ := G.ex
  intro pins s σ H xs us Q I rx h
  obtain ⟨a, dx, fs, rfl, ha, h⟩ := h
  obtain ⟨u, rfl, ru⟩ := vals1 rx
  cases ru
  obtain ⟨ox, od, J⟩ := own_at I ha
  obtain ⟨m, hF⟩ := I.fr
  refine PySem.W.repr_K (by have := hr.in1.units; omega) hF I.ok.mod.kin J hs hf ?_
  refine wpAny_mono (run_gA F hr.in1 rfl hb hx I (show Vals [V.ref a] [Value.ref a] from .cons rfl .nil) h) (fun r z q => ?_) fun _ _ e => e
  obtain ⟨v, H', I', rv, ⟨y, rfl⟩, q⟩ := q
  obtain ⟨t, rfl⟩ := rv
  exact ⟨.str y, H', I', ⟨_, rfl⟩, q⟩
theorem str_by {prog : Program} {w : World} {A : Around} {R E : Value → Shared → Prop} {s : Shared} {v : Value} (h : wpAny (model prog w) A.in1.in1 (Builtin.Str.strOf v) (fun r z => z.TypeIs r "str" ∧ R r z) E s) : wpAny (model prog w) A (call (.type "str") [v]) R E s := by
  refine PySem.callType_newIn F.called_str (by decide) (F.typeCall_str_1 _) (F.newCall_str_1 _) (fun obj => F.args_object_init_2 obj _) F.entry_str_new
    (S := fun B T z => wpAny (model prog w) B.in1 (Builtin.Str.strOf v) (fun r z' => T (.ok (.ret r)) z') (fun e z' => T (.error e) z') z) ?_ h
  intro B T z q
  rw [str_new_tree v]
  refine wpAny_bind (wpAny_pure (wpAny_bind (wpAny_of_eq isSubtype_str_str ?_)))
  exact wpAny_bind (wpAny_mono q (fun r z' q' => wpAny_pure q') fun _ _ e => e)
theorem cr_strO (G : DefO X.prog X.w X.K X.mg X.base CX C "__str__" n ps sp) (hr : RoomG (n + 2) X.A) (hx : Passes CX X E) : CallR X (.type "str") (rUnO C sp E IsStr) := by
  obtain ⟨f, fd, hs, hf, F, hb⟩ := G.ex
  intro pins s σ H xs us Q I rx h
  obtain ⟨a, dx, fs, rfl, ha, h⟩ := h
  obtain ⟨u, rfl, ru⟩ := vals1 rx
  cases ru
  obtain ⟨ox, od, J⟩ := own_at I ha
  refine str_by ?_
  unfold Builtin.Str.strOf
  refine wpAny_ite_split (fun q => absurd (show false = true from q) Bool.false_ne_true) (fun _ => ?_)
  refine wpAny_bind (wpAny_cRoomFor (by have := hr.in1.in1.units; omega) ?_)
  refine wpAny_bind (m := callSpecial? (.ref a) (Str.ofString "__str__")) (PySem.W.special_fn I.kIn J hs (beq_iff_eq.mp hf) ?_)
  refine wpAny_mono (run_gA F hr.in1.in1 rfl hb hx I (show Vals [V.ref a] [Value.ref a] from .cons rfl .nil) h) (fun r z q => ?_) fun _ _ e => e
  obtain ⟨v, H', I', rv, ⟨y, rfl⟩, q⟩ := q
  obtain ⟨t, rfl⟩ := rv
  refine wpAny_bind (wpAny_pure ?_)
  exact wpAny_pure ⟨typeIs_str _ _ _, .str y, H', I', ⟨_, rfl⟩, q⟩
end
theorem w_unO {C a dx : Addr} {fs : List (Str × V)} {sp : Sp} {E : XK} {g : V → Prop} {H : Hp} {Q : VK} (ha : H a = some (.ins C dx fs)) (k : sp [.ref a] H (fun v H' => g v ∧ Q v H') E) : rUnO C sp E g [.ref a] H Q := ⟨a, dx, fs, rfl, ha, k⟩
/-! lists of own things, != that finds all alike -/
theorem ne_loopL {prog : Program} {w : World} {A : Around} {R : Result → Shared → Prop} (l b : Addr) (N : Nat) (J : Nat → Shared → Prop) (hl : GQ.ListI prog w A (fun e z => R (.error e) z) l b N J) (fin : ∀ z, J N z → R (.ok (.ret (.bool false))) z) : ∀ (k i : Nat), N - i = k → i ≤ N → ∀ z, J i z →
    wpAny (model prog w) A.in1 (Builtin.«list.__eq__.loop» ⟨[.ref l, .ref b, rawInt i, rawInt 3], []⟩) (GQ.FinOf prog w A R) (fun e z' => R (.error e) z') z := by
  intro k
  induction k with
  | zero =>
    intro i hk hi z h
    obtain ⟨u1, u2, n1, n2, g1, g2, e1, e2, _⟩ := hl _ _ h
    have hR : R (.ok (.ret (.bool false))) z := fin z ((show i = N by omega) ▸ h)
    obtain ⟨hp, g, d, tk, os⟩ := z
    wp_walk using AutoSeq1.wpAny_loadPart' g1, AutoSeq1.wpAny_loadPart' g2
    have o1 : u1[((i : Nat) : Int).toNat]? = none := by simp; omega
    have o2 : u2[((i : Nat) : Int).toNat]? = none := by simp; omega
    rw [o1, o2]
    wp_walk using AutoSeq1.wpAny_loadPart' g1, AutoSeq1.wpAny_loadPart' g2
    show R (.ok (.ret (.bool (u1.size != u2.size)))) _
    rw [e1, e2, bne_self_eq_false]
    exact hR
  | succ k ih =>
    intro i hk hi z h
    obtain ⟨u1, u2, n1, n2, g1, g2, e1, e2, turn⟩ := hl _ _ h
    have l1 : i < u1.size := by omega
    have l2 : i < u2.size := by omega
    have ht := turn l1 l2
    obtain ⟨hp, g, d, tk, os⟩ := z
    wp_walk using AutoSeq1.wpAny_loadPart' g1, AutoSeq1.wpAny_loadPart' g2
    have o1 : u1[((i : Nat) : Int).toNat]? = some u1[i] := by simp [l1]
    have o2 : u2[((i : Nat) : Int).toNat]? = some u2[i] := by simp [l2]
    rw [o1, o2]
    refine wpAny_bind (wpAny_mono ht (fun r z2 q => ?_) fun _ _ x => x)
    obtain ⟨rfl, q⟩ := q
    have again := ih (i + 1) (by omega) (by omega) z2 q
    obtain ⟨hp2, g2', d2, tk2, os2⟩ := z2
    wp_walk
    rw [show ((i : Int) + 1) = ((i + 1 : Nat) : Int) by omega]
    exact ⟨PySem.plainId_quiet MeetsSeq3.plain_eq_loop _, codeAny_builtin MeetsSeq3.entry_eq_loop (by rw [Around.under_plainId MeetsSeq3.plain_eq_loop _]; exact again)⟩
theorem ne_listL {prog : Program} {w : World} {A : Around} {R : Result → Shared → Prop} (l b : Addr) (N : Nat) (J : Nat → Shared → Prop) (hl : GQ.ListI prog w A (fun e z => R (.error e) z) l b N J) (fin : ∀ z, J N z → R (.ok (.ret (.bool false))) z) {z : Shared} (h : J 0 z) :
    wpAny (model prog w) A.in1 (Builtin.«list.__ne__» ⟨[.ref l, .ref b], []⟩) (GQ.FinOf prog w A R) (fun e z' => R (.error e) z') z := by
  obtain ⟨u1, u2, n1, n2, g1, g2, e1, e2, _⟩ := hl _ _ h
  have again := ne_loopL (A := A) (R := R) l b N J hl fin _ 0 rfl (Nat.zero_le _) z h
  obtain ⟨hp, g, d, tk, os⟩ := z
  have f3 := AutoSeq1.sub_list_list
  have hne : ¬ (u1.size != u2.size) = true := by simp [e1, e2]
  wp_walk using AutoSeq1.wpAny_loadPart' g1, AutoSeq1.wpAny_loadPart' g2
  exact ⟨PySem.plainId_quiet MeetsSeq3.plain_eq_loop _, codeAny_builtin MeetsSeq3.entry_eq_loop (by rw [Around.under_plainId MeetsSeq3.plain_eq_loop _]; exact again)⟩
/-- xs != ys, two lists of things of a class with its own ==, which finds each pair alike -/
def rNeLO (C : Addr) (sp : Sp) (E : XK) : R2 := fun x y H Q => ∃ a b xs ys, x = .ref a ∧ y = .ref b ∧ H a = some (.lst xs) ∧ H b = some (.lst ys) ∧ Paired (fun x y => ∃ p q dx dy fs gs, x = .ref p ∧ y = .ref q ∧ H p = some (.ins C dx fs) ∧ H q = some (.ins C dy gs) ∧ ∀ H1, Sm H H1 → sp [.ref p, .ref q] H1 (fun v H2 => v = .bl true ∧ Sm H1 H2) E) xs ys ∧ ∀ H', Sm H H' → Q (.bl false) H'
theorem op_neLO {X : Cx} {CX : CXT} {C : Addr} {n : Nat} {ps : List Str} {sp : Sp} {E : XK} (G : DefO X.prog X.w X.K X.mg X.base CX C "__eq__" n ps sp) (hr : RoomG (n + 1) X.A) (hx : Passes CX X E) : OpR X (compareOp .NotEq) (rNeLO C sp E) := by
  obtain ⟨f, fd, hs, hf, F, hb⟩ := G.ex
  intro pins s σ H x y v u Q I rx ry h
  obtain ⟨a, b, xs, ys, rfl, rfl, ha, hb', hp, q⟩ := h
  cases rx
  cases ry
  show wpAny (model X.prog X.w) X.A (richCompare .NotEq (.ref a) (.ref b)) (EP X pins σ Q) X.xe s
  have hl : GQ.ListI X.prog X.w X.A X.xe a b xs.length (fun _ z => ∃ H1, Inv X pins σ H1 z ∧ Sm H H1) := by
    rintro i z ⟨H1, I1, s1⟩
    obtain ⟨z1, its, k1, r1, e1⟩ := I1.hok a _ (s1 _ _ ha)
    obtain ⟨z2, jts, k2, r2, e2⟩ := I1.hok b _ (s1 _ _ hb')
    have hpl : xs.length = ys.length := hp.length
    refine ⟨its.toArray, jts.toArray, k1, k2, e1, e2, by rw [List.size_toArray, ← r1.length], by rw [List.size_toArray, ← r2.length, hpl], fun h1 h2 => ?_⟩
    rw [List.size_toArray] at h1 h2
    have i1 : i < xs.length := by rw [r1.length]; exact h1
    have i2 : i < ys.length := by rw [r2.length]; exact h2
    obtain ⟨y, hy, p, q, dx, dy, fs, gs, e3, e4, gp, gq, hq⟩ := paired_get hp (List.getElem?_eq_getElem i1)
    obtain ⟨u, hu, ru⟩ := r1.get (List.getElem?_eq_getElem i1)
    obtain ⟨v, hv, rv⟩ := r2.get hy
    rw [List.getElem?_eq_getElem h1] at hu
    rw [List.getElem?_eq_getElem h2] at hv
    have eu : its.toArray[i] = u := by simpa using Option.some.inj hu
    have ev : jts.toArray[i] = v := by simpa using Option.some.inj hv
    rw [eu, ev]
    rw [e3] at ru
    rw [e4] at rv
    cases ru
    cases rv
    by_cases hpq : p = q
    · subst hpq
      exact SeqAt.EqAt.same (A := X.A.in1) (s := z) (.ref p) X.prog X.w X.xe _ ⟨rfl, H1, I1, s1⟩
    · refine GQ.eqBool_refG hpq ?_
      obtain ⟨ox, od, J1⟩ := own_at I1 (s1 _ _ gp)
      obtain ⟨oy, oe, J2⟩ := own_at I1 (s1 _ _ gq)
      obtain ⟨m, hF⟩ := I1.fr
      refine PySem.W.cmp_K (op := .Eq) (tb := .ref C) (by have := hr.in1.units; omega) hF I1.ok.mod.kin J1 J2.type (by simp [PySem.W.notFirst]) hs hf ?_
      refine wpAny_mono (run_gA F hr.in1 rfl hb hx I1 (show Vals [V.ref p, V.ref q] [Value.ref p, Value.ref q] from .cons rfl (.cons rfl .nil)) (hq H1 s1)) (fun r z' q' => ?_) fun _ _ e => e
      obtain ⟨v', H2, I2, rv', ⟨rfl, s2⟩, _⟩ : ∃ v' H2, Inv X pins σ H2 z' ∧ RelV v' r ∧ (v' = .bl true ∧ Sm H1 H2) ∧ True := by
        obtain ⟨v', H2, I2, rv', q2⟩ := q'
        exact ⟨v', H2, I2, rv', q2, trivial⟩
      cases rv'
      exact ⟨true, rfl, rfl, H2, I2, s1.trans s2⟩
  obtain ⟨u1, u2, n1, n2, g1, g2, _, _, _⟩ := hl 0 s ⟨H, I, Same.refl _⟩
  refine wpAny_richCompare_same_room (op := .NotEq) ⟨_, g1, rfl⟩ ⟨_, g2, rfl⟩ PySem.F.slot_list_ne (GQ.call_here PySem.F.slot_list_ne ⟨_, g1, rfl⟩ PySem.F.entry_list_ne (PySem.F.args_list_ne_2 _ _) ?_) (by have := hr.units; omega)
  exact ne_listL (R := wants (fun v s' => v ≠ .notImplemented ∧ EP X pins σ Q v s') X.xe) a b xs.length _ hl (fun z q2 => ⟨(fun x => nomatch x), by
    obtain ⟨H1, I1, s1⟩ := q2
    exact ⟨.bl false, H1, I1, rfl, q H1 s1⟩⟩) ⟨H, I, Same.refl _⟩

/-! str of a text or a whole number; texts joined; the lines of a program -/
def shV : V → Str
  | .str a => a
  | .int i => toString i
  | _ => Str.empty
def gStr2 : List V → Hp → VK → Prop := fun xs H Q => (∃ a, xs = [.str a] ∧ Q (.str a) H) ∨ ∃ i : Int, xs = [.int i] ∧ i.natAbs.log2 < 1920 ∧ Q (.str (toString i)) H
theorem call_gStr2 {X : Cx} : CallR X (.type "str") gStr2 := by
  intro pins s σ H xs us Q I rx h
  rcases h with h | h
  · exact SkE.call_str_str pins s σ H xs us Q I rx h
  · exact call_str_int pins s σ H xs us Q I rx h
theorem w_str2 {H : Hp} {Q : VK} {x : V} (hx : (∃ a, x = .str a) ∨ ∃ i : Int, x = .int i ∧ i.natAbs < 2 ^ 64) (k : Q (.str (shV x)) H) : gStr2 [x] H Q := by
  rcases hx with ⟨a, rfl⟩ | ⟨i, rfl, hi⟩
  · exact .inl ⟨a, rfl, k⟩
  · exact .inr ⟨i, rfl, log_i64 hi, k⟩
theorem w_str2S {H : Hp} {Q : VK} {a : Str} (k : Q (.str a) H) : gStr2 [.str a] H Q := .inl ⟨a, rfl, k⟩
theorem w_str2I {H : Hp} {Q : VK} {i : Int} (h : i.natAbs < 2 ^ 64) (k : Q (.str (toString i)) H) : gStr2 [.int i] H Q := .inr ⟨i, rfl, log_i64 h, k⟩
local macro_rules | `(tactic| tm_at "rs") => `(tactic| first | with_reducible refine w_str2S ?_ | ((with_reducible refine' w_str2I ?h ?_); (case h => omega)) | fail "no")
theorem sum_bd {B : Nat} : ∀ ys : List Str, (∀ y ∈ ys, y.length ≤ B) → (ys.map (·.length)).sum ≤ ys.length * B
  | [], _ => by simp
  | y :: ys, h => by
    rw [List.map_cons, List.sum_cons, List.length_cons, Nat.succ_mul]
    have h1 := sum_bd ys (fun z hz => h z (List.mem_cons_of_mem _ hz))
    have h2 := h y List.mem_cons_self
    omega
theorem w_joinB {K : PySem.W.Frag} {H : Hp} {Q : VK} {p : Addr} {a : Str} {ys : List Str} {B : Nat} (h : H p = some (.lst (ys.map V.str))) (hb : ∀ y ∈ ys, y.length ≤ B) (hz : ys.length * B + ys.length * a.length ≤ 16777216) (k : Q (.str (Txt.join a ys)) H) : JoinE K (.str a) (.ref p) Q H :=
  ⟨_, p, ys, rfl, rfl, .inl (sq_of h), by have := sum_bd ys hb; omega, k⟩
theorem glue_len (sep : Str) : ∀ (rest : List Str) (x : Array Nat), (rest.foldl (fun acc p => acc ++ sep.cps ++ p.cps) x).size = x.size + rest.length * sep.length + (rest.map (·.length)).sum
  | [], x => by simp
  | y :: rest, x => by
    rw [List.foldl_cons, glue_len sep rest, Array.size_append, Array.size_append, List.length_cons, List.map_cons, List.sum_cons, Nat.succ_mul]
    show x.size + sep.length + y.length + _ + _ = _
    omega
theorem join_len (sep : Str) (x : Str) (ys : List Str) : (Txt.join sep (x :: ys)).length = x.length + ys.length * sep.length + (ys.map (·.length)).sum := by
  unfold Txt.join
  rw [StrLaws.glued_eq_join, ← StrLaws.glued_cons]
  exact glue_len sep ys x.cps
theorem join_le {sep : Str} {B : Nat} : ∀ (ys : List Str), (∀ y ∈ ys, y.length ≤ B) → (Txt.join sep ys).length ≤ ys.length * B + ys.length * sep.length
  | [], _ => Nat.zero_le _
  | x :: ys, h => by
    rw [join_len, List.length_cons, Nat.succ_mul, Nat.succ_mul]
    have h1 := sum_bd ys (fun z hz => h z (List.mem_cons_of_mem _ hz))
    have h2 := h x List.mem_cons_self
    omega
def rwT (r : Rw) : Str := Txt.join (Str.ofString " ") (r.vs.map shV)
def lnsT (m : Nat) (rs : List Rw) : List Str := (Str.ofString "boxes " ++ toString (m : Int)) :: rs.map rwT
def pgT (m : Nat) (rs : List Rw) : Str := Txt.join (Str.ofString "\n") (lnsT m rs)
theorem rw_vs_ok {m n : Nat} (hm : m ≤ 1000) (hn : n ≤ 1000) {r : Rw} (h : r.ok m n) : ∀ x ∈ r.vs, (∃ a : Str, x = .str a ∧ a.length ≤ 25) ∨ ∃ i : Int, x = .int i ∧ i.natAbs < 2 ^ 64 := by
  intro x hx
  cases r <;> simp only [Rw.vs, List.mem_cons, List.not_mem_nil, or_false] at hx <;> simp only [Rw.ok] at h
  · rcases hx with rfl | rfl
    · exact .inl ⟨_, rfl, by decide⟩
    · exact .inr ⟨_, rfl, by omega⟩
  · rcases hx with rfl | rfl
    · exact .inl ⟨_, rfl, by decide⟩
    · exact .inr ⟨_, rfl, by omega⟩
  · rcases hx with rfl | rfl | rfl
    · exact .inl ⟨_, rfl, by decide⟩
    · exact .inr ⟨_, rfl, by omega⟩
    · exact .inr ⟨_, rfl, by omega⟩
  · rcases hx with rfl | rfl
    · exact .inl ⟨_, rfl, by decide⟩
    · exact .inr ⟨_, rfl, by omega⟩
  · subst hx
    exact .inl ⟨_, rfl, by decide⟩
theorem rw_sh_le {m n : Nat} (hm : m ≤ 1000) (hn : n ≤ 1000) {r : Rw} (h : r.ok m n) : ∀ y ∈ r.vs.map shV, y.length ≤ 25 := by
  intro y hy
  obtain ⟨x, hx, rfl⟩ := List.mem_map.mp hy
  rcases rw_vs_ok hm hn h x hx with ⟨a, rfl, ha⟩ | ⟨i, rfl, hi⟩
  · exact ha
  · exact tos_le hi
theorem rw_vs_len (r : Rw) : r.vs.length ≤ 3 := by cases r <;> exact Nat.le_of_ble_eq_true rfl
theorem rwT_le {m n : Nat} (hm : m ≤ 1000) (hn : n ≤ 1000) {r : Rw} (h : r.ok m n) : (rwT r).length ≤ 100 := by
  have h1 := join_le (sep := Str.ofString " ") _ (rw_sh_le hm hn h)
  have h2 := rw_vs_len r
  have h3 : (Str.ofString " ").length = 1 := rfl
  rw [List.length_map, h3] at h1
  unfold rwT
  omega
theorem lnsT_le {m : Nat} {rs : List Rw} (hm : m ≤ 1000) (hn : rs.length ≤ 1000) (h : RwsOk m rs.length rs) : ∀ y ∈ lnsT m rs, y.length ≤ 100 := by
  intro y hy
  rcases List.mem_cons.mp hy with rfl | hy
  · rw [app_len]
    have h1 := tos_le (i := (m : Int)) (by omega)
    have h2 : (Str.ofString "boxes ").length = 6 := rfl
    have h3 : (toString (m : Int) : Str).length ≤ 25 := h1
    omega
  · obtain ⟨r, hr, rfl⟩ := List.mem_map.mp hy
    exact rwT_le hm hn (h r hr)
theorem lnsT_len (m : Nat) (rs : List Rw) : (lnsT m rs).length = rs.length + 1 := by
  unfold lnsT
  rw [List.length_cons, List.length_map]
theorem sz_cat {a b : Str} {p : Nat} (h : a.length ≤ p) (k : b.length ≤ 25) : (a ++ b).length ≤ p + 25 := by
  rw [app_len]
  omega
theorem sz_lit {a : Str} (h : a.length ≤ 25) : a.length ≤ 25 := h
theorem sz_tr {a p : Nat} (h : a ≤ p) (k : p ≤ 100000) : a ≤ sizeLine := sz_of (Nat.le_trans h k)
local macro_rules | `(tactic| tm_at "rz1") => `(tactic| first | ((with_reducible refine' tos_le ?h); (case h => omega)) | (exact sz_lit (by decide)) | fail "no")
local macro_rules | `(tactic| tm_at "rz") => `(tactic| first | ((with_reducible refine' sz_cat ?h ?k); (case k => tm_at "rz1"); (case h => tm_at "rz")) | tm_at "rz1" | fail "no")
local macro_rules | `(tactic| tm_at "rsl") => `(tactic| first | with_reducible assumption | ((refine' sz_tr (sz_cat ?h ?k) ?z); (case k => tm_at "rz1"); (case h => tm_at "rz"); (case z => decide)) | fail "no")
theorem w_addS2 {K : PySem.W.Frag} {H : Hp} {Q : VK} {a b : Str} (z : (a ++ b).length ≤ sizeLine) (k : Q (.str (a ++ b)) H) : gAdd K (.str a) (.str b) H Q := w_addS (by rw [app_len] at z; exact z) k
local macro_rules | `(tactic| tm_at "rs") => `(tactic| first | ((with_reducible refine' w_addS2 ?h ?_); (case h => tm_at "rsl")) | fail "no")

theorem join_snoc (sep x : Str) (ys : List Str) (y : Str) : Txt.join sep (x :: (ys ++ [y])) = Txt.join sep (x :: ys) ++ sep ++ y := by
  show Str.mk ((ys ++ [y]).foldl (fun acc p => acc ++ sep.cps ++ p.cps) x.cps) = _
  rw [List.foldl_append]
  rfl
theorem app_as (a b c : Str) : a ++ b ++ c = a ++ (b ++ c) := by
  show Str.mk (a.cps ++ b.cps ++ c.cps) = Str.mk (a.cps ++ (b.cps ++ c.cps))
  rw [Array.append_assoc]
theorem TmAt.kpB {K : PySem.W.Frag} {H H' : Hp} {t : Tm} {v : V} {b : Addr} (r : TmAt K H t v) (hb : BoxAt H b) (e : Kp b H H') : TmAt K H' t v := by
  obtain ⟨x, s, hb, _⟩ := hb
  exact r.kpL hb e
theorem w_ixStrs {K : PySem.W.Frag} {H : Hp} {Q : VK} {p : Addr} {ys : List Str} {i : Int} (h : SqL K H p (ys.map V.str)) (i0 : 0 ≤ i) (i1 : i < (ys.length : Int)) (k : ∀ s ∈ ys, Q (.str s) H) : rIx K (.ref p) (.int i) H Q := by
  obtain ⟨j, rfl⟩ := Int.eq_ofNat_of_zero_le i0
  have hj : j < ys.length := by omega
  exact w_ixL h (atI_nat (j := j) (by rw [List.getElem?_map, List.getElem?_eq_getElem hj]; rfl)) (k _ (List.getElem_mem hj))
local macro_rules | `(tactic| tm_at "rtm") => `(tactic| first | with_reducible assumption | ((refine' TmAt.sm ?sa ?sb); (case sb => with_reducible assumption); (case sa => tm_at "rtm")) | ((refine' TmAt.kpB ?sa ?sc ?sb); (case sb => with_reducible assumption); (case sc => tm_at "rbx"); (case sa => tm_at "rtm")) | ((refine' TmAt.kpL ?sa ?sc ?sb); (case sb => with_reducible assumption); (case sc => tm_at "rlk"); (case sa => tm_at "rtm")) | ((refine' TmAt.kpD ?sa ?sc ?sb); (case sb => with_reducible assumption); (case sc => tm_at "rlk"); (case sa => tm_at "rtm")) | fail "no")

/-! small numbers written and read -/
def dgOk (n : Nat) : Bool :=
  let z : Str := toString (n : Int)
  decide (1 ≤ z.length) && decide (z.length ≤ 2) && decide ((Txt.stripChars z (Str.ofString "0123456789")).length = 0) && decide (1 < z.length → z.cps.toList[0]? ≠ some 48) && decide (PySem.intText? z = some (n : Int)) && decide (32 ∉ z.cps.toList) && decide (10 ∉ z.cps.toList)
theorem dg_all : ∀ n : Fin 100, dgOk n = true := by decide +kernel
structure DgF (z : Str) (n : Nat) : Prop where
  l1 : 1 ≤ z.length
  l2 : z.length ≤ 2
  st : (Txt.stripChars z (Str.ofString "0123456789")).length = 0
  z0 : 1 < z.length → z.cps.toList[0]? ≠ some 48
  it : PySem.intText? z = some (n : Int)
  b0 : 32 ∉ z.cps.toList
  n0 : 10 ∉ z.cps.toList
theorem dg {n : Nat} (h : n < 100) : DgF (toString (n : Int)) n := by
  have e := dg_all ⟨n, h⟩
  unfold dgOk at e
  simp only [Bool.and_eq_true, decide_eq_true_eq] at e
  obtain ⟨⟨⟨⟨⟨⟨h1, h2⟩, h3⟩, h4⟩, h5⟩, h6⟩, h7⟩ := e
  exact ⟨h1, h2, h3, h4, h5, h6, h7⟩
def StpE (Q : VK) (x y : V) (H : Hp) : Prop := ∃ a b, x = .str a ∧ [y] = [.str b] ∧ a.length ≤ sizeLine ∧ Q (.str (Txt.stripChars a b)) H
theorem w_stp {to te : TE} {σ : L2.St} {H : Hp} {Q : VK} (k : to σ H fun x H1 => (∃ a, x = .str a) ∧ te σ H1 fun y H2 => StpE Q x y H2) : tM1 (fun x xs H Q => ∃ a b, x = .str a ∧ xs = [.str b] ∧ a.length ≤ sizeLine ∧ Q (.str (Txt.stripChars a b)) H) to te σ H Q := k
theorem w_stpE {H : Hp} {Q : VK} {a b : Str} (z : a.length ≤ sizeLine) (k : Q (.str (Txt.stripChars a b)) H) : StpE Q (.str a) (.str b) H := ⟨a, b, rfl, rfl, z, k⟩
def SplE (Q : VK) (x y : V) (H : Hp) : Prop := ∃ a b, x = .str a ∧ [y] = [.str b] ∧ (b.length == 0) = false ∧ a.length + 2 ≤ sizeLine ∧ rNewStrs (Txt.split a b) H Q
theorem w_spl {to te : TE} {σ : L2.St} {H : Hp} {Q : VK} (k : to σ H fun x H1 => (∃ a, x = .str a) ∧ te σ H1 fun y H2 => SplE Q x y H2) : tM1 (fun x xs H Q => ∃ a b, x = .str a ∧ xs = [.str b] ∧ (b.length == 0) = false ∧ a.length + 2 ≤ sizeLine ∧ rNewStrs (Txt.split a b) H Q) to te σ H Q := k
theorem w_splE {H : Hp} {Q : VK} {a b : Str} (n : (b.length == 0) = false) (z : a.length + 2 ≤ 16000000) (k : ∀ p H', H p = none → Sm H H' → H' p = some (.lst ((Txt.split a b).map V.str)) → Q (.ref p) H') : SplE Q (.str a) (.str b) H :=
  ⟨a, b, rfl, rfl, n, by have := sizeLine_eq; omega, fun p hp => k p _ hp (sm_new hp) upd_same⟩
def gIntS : List V → Hp → VK → Prop := fun xs H Q => ∃ a n, xs = [.str a] ∧ PySem.intText? a = some n ∧ a.length ≤ 640 ∧ Q (.int n) H
theorem call_gIntS {X : Cx} : CallR X (.type "int") gIntS := call_int_str
theorem w_intS {H : Hp} {Q : VK} {a : Str} {n : Int} (h : PySem.intText? a = some n) (l : a.length ≤ 640) (k : Q (.int n) H) : gIntS [.str a] H Q := ⟨a, n, rfl, h, l, k⟩
/-- the read-back of joined texts -/
theorem split_sp {parts : List Str} (ne : parts ≠ []) (h : ∀ p ∈ parts, 32 ∉ p.cps.toList) : Txt.split (Txt.join (Str.ofString " ") parts) (Str.ofString " ") = parts :=
  TL.split_join (y := Str.ofString " ") (s := 32) (S := []) rfl (by decide +kernel) ne h
theorem split_nl {parts : List Str} (ne : parts ≠ []) (h : ∀ p ∈ parts, 10 ∉ p.cps.toList) : Txt.split (Txt.join (Str.ofString "\n") parts) (Str.ofString "\n") = parts :=
  TL.split_join (y := Str.ofString "\n") (s := 10) (S := []) rfl (by decide +kernel) ne h
local macro_rules | `(tactic| tm_at "rs") => `(tactic| first | with_reducible refine w_stp ?_ | with_reducible refine w_isS ?_ | with_reducible refine w_spl ?_ | fail "no")

def lets : Str := Str.ofString "abcdefghijklmnopqrstuvwxyz"
def figs : Str := Str.ofString "0123456789"
def alnum (c : Nat) : Bool := decide (c ∈ (lets ++ figs).cps.toList)
def hd0 : List Nat → Bool
  | [] => false
  | c :: _ => decide (c ∈ lets.cps.toList)
def isn (l : List Nat) : Bool := decide (1 ≤ l.length) && decide (l.length ≤ 10) && hd0 l && l.all alnum
theorem isn_of {l : List Nat} (h1 : 1 ≤ l.length) (h2 : l.length ≤ 10) (h3 : hd0 l = true) : isn l = l.all alnum := by
  unfold isn
  rw [decide_eq_true h1, decide_eq_true h2, h3]
  rfl
theorem isn_len {l : List Nat} (h : ¬ (1 ≤ l.length ∧ l.length ≤ 10)) : isn l = false := by
  unfold isn
  by_cases h1 : 1 ≤ l.length
  · rw [decide_eq_false (show ¬ l.length ≤ 10 from fun z => h ⟨h1, z⟩), Bool.and_false]
    rfl
  · rw [decide_eq_false h1]
    rfl
theorem isn_hd {l : List Nat} (h : hd0 l = false) : isn l = false := by
  unfold isn
  rw [h, Bool.and_false]
  rfl
theorem hd0_of {l : List Nat} {c : Nat} (h : l[0]? = some c) : hd0 l = decide (c ∈ lets.cps.toList) := by
  cases l with
  | nil => cases h
  | cons x l => cases h; rfl
theorem all_map (l : List Nat) : (l.map alnum).all id = l.all alnum := by rw [List.all_map]; rfl
theorem app_list (a b : Str) : (a ++ b).cps.toList = a.cps.toList ++ b.cps.toList := Array.toList_append
theorem figs_lets : ∀ c ∈ figs.cps.toList, c ∉ lets.cps.toList := by decide +kernel
theorem list36 : (Str.ofString "abcdefghijklmnopqrstuvwxyz0123456789").cps.toList = (lets ++ figs).cps.toList := by decide +kernel
theorem isn_fig {l : List Nat} {c : Nat} (h : l[0]? = some c) (h1 : 1 ≤ l.length) (h2 : l.length ≤ 10) (hf : c ∉ figs.cps.toList) : isn l = l.all alnum := by
  by_cases hc : c ∈ lets.cps.toList
  · exact isn_of h1 h2 (by rw [hd0_of h]; exact decide_eq_true hc)
  · rw [isn_hd (by rw [hd0_of h]; exact decide_eq_false hc)]
    cases l with
    | nil => cases h
    | cons x l =>
      obtain rfl : x = c := Option.some.inj h
      have e : alnum x = false := decide_eq_false (fun m => by
        rw [app_list] at m
        rcases List.mem_append.mp m with m | m
        · exact hc m
        · exact hf m)
      rw [List.all_cons, e]
      rfl
theorem isn_dig {l : List Nat} {c : Nat} (h : l[0]? = some c) (hf : c ∈ figs.cps.toList) : isn l = false :=
  isn_hd (by rw [hd0_of h]; exact decide_eq_false (figs_lets c hf))
def bad (l : List Nat) : Nat := (l.filter fun c => !alnum c).length
theorem bad_take {l : List Nat} {i c : Nat} (h : l[i]? = some c) : bad (l.take (i + 1)) = bad (l.take i) + (if alnum c = true then 0 else 1) := by
  unfold bad
  rw [List.take_succ, h, List.filter_append, List.length_append]
  congr 1
  show (List.filter (fun c => !alnum c) [c]).length = _
  rw [List.filter_cons]
  cases alnum c <;> rfl
theorem bad_all : ∀ l : List Nat, (bad l = 0 ↔ l.all alnum = true)
  | [] => ⟨fun _ => rfl, fun _ => rfl⟩
  | c :: l => by
    have h := bad_all l
    have e : bad (c :: l) = (if alnum c = true then 0 else 1) + bad l := by
      unfold bad
      rw [List.filter_cons]
      cases alnum c
      · show (c :: _).length = 1 + _
        rw [List.length_cons, Nat.add_comm]
      · show _ = 0 + _
        rw [Nat.zero_add]; rfl
    rw [e, List.all_cons]
    cases alnum c
    · simp
    · simpa using h
theorem ans_take {l : List Nat} {i c : Nat} (h : l[i]? = some c) : (l.take (i + 1)).map alnum = (l.take i).map alnum ++ [alnum c] := by
  rw [List.take_succ, h, List.map_append]
  rfl

def Rw.nums : Rw → List Nat
  | .up j => [j]
  | .dn j => [j]
  | .br j g => [j, g]
  | .go g => [g]
  | .st => []
def dgS (n : Nat) : Str := toString (n : Int)
theorem rw_nums (r : Rw) : r.vs = .str r.word :: nV r.nums := by cases r <;> rfl
theorem rw_sv (r : Rw) : r.vs.map shV = r.word :: r.nums.map dgS := by cases r <;> rfl
theorem rw_nums_lt {r : Rw} {m n : Nat} (h : r.ok m n) (hm : m ≤ 99) (hn : n ≤ 99) : ∀ j ∈ r.nums, j < 100 := fun j hj => by
  cases r <;> simp only [Rw.nums, List.mem_cons, List.not_mem_nil, or_false] at hj <;> simp only [Rw.ok] at h
  · omega
  · omega
  · rcases hj with rfl | rfl <;> omega
  · omega
/-! enumerate over a list from another number on -/
def Ite1 (K : PySem.W.Frag) (a : Addr) (c : Int) : It :=
  ⟨fun i H => ∃ (xs : List V) (x : V), SqL K H a xs ∧ xs[i]? = some x, fun i H v H' => ∃ T x, v = .ref T ∧ H T = none ∧ H' = upd H T (.tup [.int (c + (i : Nat)), x]) ∧ ∀ xs, SqL K H a xs → xs[i]? = some x, fun i H => ∃ xs : List V, SqL K H a xs ∧ xs.length = i⟩
theorem turn_enum1 {P : Program} {w : World} {K : PySem.W.Frag} {elts : List Expr} {kk : Nat} {tpos : Pos} (a e it : Addr) (c : Int) :
    Turn P w K (.Tuple elts kk tpos) (Ite1 K a c) [e, it] e (fun i h => (∃ old, IsEnum h e it (c + ((i : Nat) : Int)) old) ∧ h.IsListIter it a i ∧ e ≠ it ∧ a ≠ it ∧ a ≠ e) where
  mem := List.mem_cons_self
  obj := by
    rintro i h ⟨⟨old, he⟩, ⟨o, ho, hc, hd⟩, _⟩ b hb
    rcases (show b = e ∨ b = it by simpa using hb) with rfl | rfl
    · exact ⟨_, he, fun v q => nomatch q⟩
    · exact ⟨o, ho, fun v q => by rw [hd] at q; cases q⟩
  keep := by
    rintro i h h' ⟨⟨old, he⟩, hi, ne⟩ k
    exact ⟨⟨old, k e (by simp) _ he⟩, hi.at fun o q => k it (by simp) o q, ne⟩
  item := by
    intro X hP hw hK hc i pins s σ H E I hf st hg
    subst hP hw hK
    obtain ⟨⟨old, he⟩, hit, hne, ha, hae⟩ := st
    obtain ⟨xs, x, hq, hx⟩ := hg
    obtain ⟨its, rv, p, hz⟩ := I.list hq
    obtain ⟨u, hu, ru⟩ := rv.get hx
    have hel : e < s.heap.objs.size := Heap.lt_size he
    have hil : it < s.heap.objs.size := by
      obtain ⟨_, q, _⟩ := hit
      exact Heap.lt_size q
    have hif : e ∉ [it, a] := by simpa using ⟨hne, fun q => hae q.symm⟩
    have D := Draws.list (prog := X.prog) (w := X.w) (A := X.A.in1) (I.ok.hd hc) it a ha its.toArray
    have hlt : i < its.toArray.size := by
      rw [List.size_toArray]
      exact (List.getElem?_eq_some_iff.mp hu).1
    refine wpAny_pyNext_enum_itemC D he ⟨hit, p.isList⟩ hlt hne hif fun y h' tk hy ho hit' hT hsz hk => ?_
    have hy2 : its[i]? = some y := by simpa using hy
    obtain rfl : u = y := Option.some.inj (hu.symm.trans hy2)
    refine ⟨_, rfl, wpAny_letOwnedTupleGo_enum (prog := X.prog) (w := X.w) (s := { s with heap := h', toks := tk + 1 }) ho fun h'' he' sb => ?_⟩
    have hT2 := (sb.2 _ (Nat.ne_of_gt hel)).trans hT
    have new : ObjOk X.prog X.w (upd H s.heap.objs.size (.tup [.int (c + (i : Nat)), x])) h'' s.heap.objs.size (.tup [.int (c + (i : Nat)), x]) :=
      ⟨by show 2 ≤ sizeLine; decide, [.int (c + (i : Nat)) tk, u], .cons ⟨_, rfl⟩ (.cons ru .nil), ⟨_, hT2, rfl, _, rfl⟩⟩
    have I1 := Inv.turnedNew (t' := tk + 1) I (ch := [e, it]) (fun b ob hb q => (sb.2 b (fun z => hb (by simp [z]))).trans (hk b ob (fun z => hb (by simp [z])) (fun z => hb (by simp [z])) q)) hf (Nat.le_refl _) new
    refine ⟨.ref s.heap.objs.size, _, I1, rfl, ⟨_, x, rfl, I.hok.fresh (Nat.le_refl _), rfl, fun ys hy => by rw [I.list_inj hy hq]; exact hx⟩, ⟨⟨u, ?_⟩, hit'.1.at fun o q => (sb.2 it (Ne.symm hne)).trans q, hne, ha, hae⟩, fun b hb => ?_⟩
    · rw [show (c + ((i + 1 : Nat) : Int)) = c + (i : Int) + 1 by omega]
      exact he'
    · have hb' : b < s.heap.objs.size := by
        rcases (show b = e ∨ b = it by simpa using hb) with rfl | rfl
        · exact hel
        · exact hil
      rw [upd_ne (Nat.ne_of_lt hb')]
      exact (hf b hb).1
  done := by
    intro X hP hw hK hc i pins s σ H E I hf st hg
    subst hP hw hK
    obtain ⟨⟨old, he⟩, hit, hne, ha, hae⟩ := st
    obtain ⟨xs, hq, hx⟩ := hg
    obtain ⟨its, rv, p, hz⟩ := I.list hq
    obtain ⟨f0, f1, f2, f3, f4, f5⟩ := hf it (by simp)
    have hl : its.toArray.size = i := by rw [List.size_toArray, ← rv.length, hx]
    subst hl
    have D := Draws.list (prog := X.prog) (w := X.w) (A := X.A.in1) (I.ok.hd hc) it a ha its.toArray
    exact wpAny_pyNext_enum_endD D he ⟨hit, p.isList⟩ fun h' eb => ⟨rfl, I.turned (t' := s.toks) (fun b o hb q => eb b o hb q) f0 f1 f3 f4 f5⟩
  self := fun A i s Q E st h => by
    obtain ⟨⟨_, he⟩, _⟩ := st
    exact wpAny_pyIter_enum he h
def iEnum1 (K : PySem.W.Frag) (ta : TA) : TI := fun σ H R => ta σ H fun vs H1 => ∃ a xs c, vs = [.ref a, .int c] ∧ SqL K H1 a xs ∧ -(2 ^ 63) ≤ c ∧ c < 2 ^ 63 ∧ R (Ite1 K a c) H1
theorem pi_enum1 {X : Cx} {K : PySem.W.Frag} (hK : X.K = K) {e e2 : Expr} {ta : TA} {p pos tpos : Pos} {elts : List Expr} {kk : Nat} (hg : Gl X "enumerate") (hm : X.mg "enumerate" = none) (ha : PA X [e, e2] ta) (hs : starEach [e, e2] X.env = (false, eval e X.env) :: starEach [e2] X.env := by rfl) (hpl : (backTo pos (starEach [e2] X.env)).any (·.1) = false := by rfl) :
    PI X (.Tuple elts kk tpos) (.Call (.Name "enumerate" p) [e, e2] [] pos) (iEnum1 K ta) := by
  subst hK
  refine ⟨fun pins s σ H R I h => Call_ (ld_blt I hg hm boot_enumerate (PyProof.Rows.callWith_type1 (thn (ha.run pos pins s σ H _ I h) fun us s1 ⟨vs, H1, I1, r1, q1⟩ => ?_) hs hpl))⟩
  obtain ⟨a, xs, c, rfl, hq, c0, c1, q⟩ := q1
  obtain ⟨u, t, rfl, ru, rt⟩ := vals2 r1
  obtain rfl : u = Value.ref a := ru
  obtain ⟨tk, rfl⟩ := rt
  obtain ⟨its, rv, p', hz⟩ := I1.list hq
  have hal : a < s1.heap.objs.size := by
    obtain ⟨o, ho, _⟩ := p'.isList
    exact Heap.lt_size ho
  refine enum_begins (begins_list a its.toArray) p'.isList c0 c1 fun h' he hit hsz hk => wpAny_pyIter_enum he ?_
  have I2 : Inv X pins σ H1 { s1 with heap := h' } := Inv.kept (t' := s1.toks) I1 hk
  refine ⟨s1.heap.objs.size + 1, [s1.heap.objs.size + 1, s1.heap.objs.size], _, _, H1, rfl, I2, turn_enum1 a (s1.heap.objs.size + 1) s1.heap.objs.size c, ⟨⟨.none, ?_⟩, ⟨_, hit, rfl, rfl⟩, Nat.succ_ne_self _, Nat.ne_of_lt hal, Nat.ne_of_lt (Nat.lt_succ_of_lt hal)⟩, fun b hb => ?_, q⟩
  · rw [show (c + ((0 : Nat) : Int)) = c by omega]
    exact he
  have hle : s1.heap.objs.size ≤ b := by
    rcases (show b = s1.heap.objs.size + 1 ∨ b = s1.heap.objs.size by simpa using hb) with rfl | rfl
    · exact Nat.le_add_right _ _
    · exact Nat.le_refl _
  exact I1.fpOk hle (I1.hok.fresh hle)
def E1E (K : PySem.W.Frag) (R : It → Hp → Prop) (vs : List V) (H1 : Hp) : Prop := ∃ a xs c, vs = [.ref a, .int c] ∧ SqL K H1 a xs ∧ -(2 ^ 63) ≤ c ∧ c < 2 ^ 63 ∧ R (Ite1 K a c) H1
theorem w_iE1 {K : PySem.W.Frag} {σ : L2.St} {H : Hp} {ta : TA} {R : It → Hp → Prop} (k : ta σ H fun vs H1 => E1E K R vs H1) : iEnum1 K ta σ H R := k
theorem w_iE1e {K : PySem.W.Frag} {H : Hp} {R : It → Hp → Prop} {a : Addr} {xs : List V} {c : Int} (h : SqL K H a xs) (c0 : -(2 ^ 63) ≤ c) (c1 : c < 2 ^ 63) (k : R (Ite1 K a c) H) : E1E K R [.ref a, .int c] H := ⟨a, xs, c, rfl, h, c0, c1, k⟩
theorem loopE1 {σ : L2.St} {H : Hp} {D : Ends} {K : PySem.W.Frag} {g : TG} {tb : TS} {a : Addr} {c : Int} {xs : List V} (Pv : Nat → L2.St → Hp → Prop) (h0 : Pv 0 σ H) (hl : ∀ i σ H, i ≤ xs.length → Pv i σ H → SqL K H a xs)
    (hs : ∀ i x T σ H H', i < xs.length → xs[i]? = some x → Pv i σ H → H T = none → Sm H H' → H' T = some (.tup [.int (c + (i : Nat)), x]) → g (.ref T) σ H' fun σ2 H2 => tb (En (Pv (i + 1)) (RT D) (NX D) (Pv (i + 1))) σ2 H2)
    (hd : ∀ σ H, Pv xs.length σ H → NX D σ H) : Loop (Ite1 K a c) g tb D σ H := by
  have wk : Walk (Ite1 K a c) xs.length (fun H => SqL K H a xs) (fun i H v H' => ∃ T x, v = .ref T ∧ H T = none ∧ H' = upd H T (.tup [.int (c + (i : Nat)), x]) ∧ xs[i]? = some x) :=
    ⟨fun i _ hi q => ⟨xs, xs[i], q, by simp [hi]⟩, fun _ q => ⟨xs, q, rfl⟩, fun i H v H' _ q y => by
      obtain ⟨T, x, h1, h2, h3, h4⟩ := y
      exact ⟨T, x, h1, h2, h3, h4 xs q⟩⟩
  refine for_it wk Pv h0 (fun i σ H hi p => hl i σ H hi p) (fun i x σ H H' hi p y => ?_) hd
  obtain ⟨T, v, rfl, hT, rfl, hv⟩ := y
  exact hs i v T σ H _ hi hv p hT (sm_new hT) upd_same
local macro_rules | `(tactic| tm_at "rs") => `(tactic| first | with_reducible refine w_iE1 ?_ | ((with_reducible refine' w_iE1e ?h (by decide) (by decide) ?k); (case h => tm_at "rsq")) | fail "no")

theorem fold_mem {sep : Str} {c : Nat} : ∀ (ys : List Str) (a : Array Nat), c ∈ (ys.foldl (fun acc p => acc ++ sep.cps ++ p.cps) a).toList → c ∈ a.toList ∨ c ∈ sep.cps.toList ∨ ∃ y ∈ ys, c ∈ y.cps.toList
  | [], a, h => .inl h
  | y :: ys, a, h => by
    rw [List.foldl_cons] at h
    rcases fold_mem ys _ h with h | h | ⟨z, hz, h⟩
    · rw [Array.toList_append, Array.toList_append] at h
      rcases List.mem_append.mp h with h | h
      · rcases List.mem_append.mp h with h | h
        · exact .inl h
        · exact .inr (.inl h)
      · exact .inr (.inr ⟨y, List.mem_cons_self, h⟩)
    · exact .inr (.inl h)
    · exact .inr (.inr ⟨z, List.mem_cons_of_mem _ hz, h⟩)
theorem join_mem {sep : Str} {c : Nat} {ys : List Str} (h : c ∈ (Txt.join sep ys).cps.toList) : c ∈ sep.cps.toList ∨ ∃ y ∈ ys, c ∈ y.cps.toList := by
  cases ys with
  | nil => cases h
  | cons x ys =>
    rcases fold_mem ys x.cps h with h | h | ⟨z, hz, h⟩
    · exact .inr ⟨x, List.mem_cons_self, h⟩
    · exact .inl h
    · exact .inr ⟨z, List.mem_cons_of_mem _ hz, h⟩
theorem rwT_nl {r : Rw} {m n : Nat} (hro : r.ok m n) (hm : m ≤ 99) (hn : n ≤ 99) : 10 ∉ (rwT r).cps.toList := fun h => by
  have hno := rw_nums_lt hro hm hn
  rcases join_mem h with h | ⟨p, hp, h⟩
  · exact absurd h (by decide +kernel)
  · rw [rw_sv] at hp
    rcases List.mem_cons.mp hp with rfl | hp
    · cases r
      · exact absurd h (by decide +kernel : 10 ∉ (Str.ofString "raise").cps.toList)
      · exact absurd h (by decide +kernel : 10 ∉ (Str.ofString "lower").cps.toList)
      · exact absurd h (by decide +kernel : 10 ∉ (Str.ofString "if").cps.toList)
      · exact absurd h (by decide +kernel : 10 ∉ (Str.ofString "go").cps.toList)
      · exact absurd h (by decide +kernel : 10 ∉ (Str.ofString "stop").cps.toList)
    · obtain ⟨j, hj, rfl⟩ := List.mem_map.mp hp
      exact (dg (hno j hj)).n0 h
theorem lns_nl {m : Nat} {rs : List Rw} (ho : RwsOk m rs.length rs) (hm : m ≤ 99) (hl : rs.length ≤ 99) : ∀ p ∈ lnsT m rs, 10 ∉ p.cps.toList := fun p hp h => by
  rcases List.mem_cons.mp hp with rfl | hp
  · have h : 10 ∈ (Str.ofString "boxes " ++ (toString (m : Int) : Str)).cps.toList := h
    rw [app_tl] at h
    rcases List.mem_append.mp h with h | h
    · exact absurd h (by decide +kernel)
    · exact (dg (n := m) (by omega)).n0 h
  · obtain ⟨r, hr, rfl⟩ := List.mem_map.mp hp
    exact rwT_nl (ho r hr) hm hl h
/-! repr of lists and tuples, where nothing is being shown -/
def gRep1 (K : PySem.W.Frag) : List V → Hp → VK → Prop := fun xs H Q => ∃ a d, xs = [.ref a] ∧ Dp K H (.ref a) d ∧ d.showable = true ∧ d.hasDict = false ∧ d.depth ≤ 3000 ∧ d.shown.length ≤ sizeLine ∧ Q (.str d.shown) H
def gRep (K : PySem.W.Frag) : List V → Hp → VK → Prop := fun xs H Q => gRep1 K xs H Q ∨ (xs = [.non] ∧ Q (.str "None") H)
theorem call_gRep1 {X : Cx} {K : PySem.W.Frag} (hK : X.K = K) (hg : X.A.guards = some []) (hu : X.A.units + 5000 < cLine) : CallR X (.builtin "repr") (gRep1 K) := by
  subst hK
  intro pins s σ H xs us Q I rs h
  obtain ⟨a, d, rfl, hd, hs, nd, hp, hz, q⟩ := h
  obtain ⟨u, rfl, ru⟩ := vals1 rs
  obtain rfl : u = Value.ref a := ru
  obtain ⟨as, r⟩ := Dp.reads I d _ _ hd rfl
  exact repr_of_reads' r hs (PyData.noDict_hsm nd) hg (by omega) (fun _ _ e => e) (fun h' u tk hk => ⟨.str _, H, Inv.kept (t' := tk) I hk, ⟨_, rfl⟩, q⟩) hz
theorem call_gRep {X : Cx} {K : PySem.W.Frag} (hK : X.K = K) (hg : X.A.guards = some []) (hu : X.A.units + 5000 < cLine) : CallR X (.builtin "repr") (gRep K) := by
  refine cr_or (call_gRep1 hK hg hu) ?_
  intro pins s σ H xs us Q I rs h
  obtain ⟨rfl, q⟩ := h
  obtain ⟨u, rfl, ru⟩ := vals1 rs
  obtain rfl : u = Value.none := ru
  exact PySem.P.repr_of_none ⟨.str _, H, I.tok _, ⟨_, rfl⟩, q⟩
theorem w_repN {K : PySem.W.Frag} {H : Hp} {Q : VK} (k : Q (.str "None") H) : gRep K [.non] H Q := .inr ⟨rfl, k⟩
theorem rp_ints : ∀ ns : List Int, (∀ n ∈ ns, n.natAbs < 10 ^ 15) → PyData.showableAll (ns.map .int) = true ∧ PyData.hasDictAll (ns.map .int) = false ∧ PyData.leavesShortAll 16 (ns.map .int) = true ∧ PyData.bulkAll (ns.map .int) = ns.length
  | [], _ => ⟨rfl, rfl, rfl, rfl⟩
  | n :: ns, h => by
    obtain ⟨h1, h2, h3, h4⟩ := rp_ints ns (fun m hm => h m (List.mem_cons_of_mem _ hm))
    have hn := h n List.mem_cons_self
    have e := int_text_length_le10 (k := 15) (by decide) hn
    have hs : (PyData.shown (.int n)).length ≤ 16 := by
      show (Str.ofString (toString n)).length ≤ 16
      rw [PySem.ofString_length]
      exact e
    have hl : n.natAbs.log2 < 1920 := PySem.Spec.log2_small (Nat.lt_of_lt_of_le hn (Nat.le_trans (show 10 ^ 15 ≤ 2 ^ 60 by decide) (Nat.pow_le_pow_right (by decide) (by decide))))
    refine ⟨?_, ?_, ?_, ?_⟩
    · simp [PyData.showableAll, PyData.showable, h1, hl]
    · simp [PyData.hasDictAll, PyData.hasDict, h2]
    · simp [PyData.leavesShortAll, PyData.leavesShort, h3, hs]
    · simp [PyData.bulkAll, PyData.bulk, h4]
      omega
theorem w_repInts {K : PySem.W.Frag} {H : Hp} {Q : VK} {a : Addr} {ns : List Int} (h : SqL K H a (ns.map V.int)) (b : ∀ n ∈ ns, n.natAbs < 10 ^ 15) (l : ns.length ≤ 1000) (k : Q (.str (PyData.shown (.list (ns.map .int)))) H) : gRep K [.ref a] H Q := by
  obtain ⟨h1, h2, h3, h4⟩ := rp_ints ns b
  have hb := PyData.shown_le_bulk 16 (by decide) (.list (ns.map .int)) (by simp [PyData.leavesShort, h3])
  refine .inl ⟨a, .list (ns.map .int), rfl, .lst h (dp_ints ns), by simp [PyData.showable, h1], by simp [PyData.hasDict, h2], ?_, sz_of ?_, k⟩
  · simp [PyData.depth, PySem.W.ke_depthAll]
  · rw [show PyData.bulk (.list (ns.map .int)) = ns.length by simp [PyData.bulk, h4]] at hb
    omega
theorem w_isiLst {K : PySem.W.Frag} {H : Hp} {Q : VK} {a : Addr} {xs : List V} (h : H a = some (.lst xs)) (k : Q (.bl true) H) : rIsi K [.ref a, .ty "list"] H Q := ⟨_, _, _, _, _, rfl, .ty _, .base (.lst h), kit_ty (by decide +kernel), k⟩
local macro_rules | `(tactic| tm_at "rs") => `(tactic| first | ((with_reducible refine' w_isiLst ?h ?k); (case h => tm_at "rlk")) | fail "no")

/-! data that can be shown: so deep, so many -/
structure ShD (d : PyData) (D N : Nat) : Prop where
  sh : d.showable = true
  nd : d.hasDict = false
  lv : d.leavesShort 600 = true
  dp : d.depth ≤ D
  bk : d.bulk ≤ N
structure ShL (ds : List PyData) (D N : Nat) : Prop where
  sh : PyData.showableAll ds = true
  nd : PyData.hasDictAll ds = false
  lv : PyData.leavesShortAll 600 ds = true
  dp : PyData.depthAll ds ≤ D
  bk : PyData.bulkAll ds ≤ N
theorem ShD.int {n : Int} {D : Nat} (h : n.natAbs < 10 ^ 500) : ShD (.int n) D 0 := by
  have e := int_text_length_le10 (k := 500) (by decide) h
  have hs : (PyData.shown (.int n)).length ≤ 600 := by
    show (Str.ofString (toString n)).length ≤ 600
    rw [PySem.ofString_length]
    omega
  have hl : n.natAbs.log2 < 1920 := PySem.Spec.log2_small (Nat.lt_of_lt_of_le h (by decide +kernel))
  exact ⟨by simp [PyData.showable, hl], by simp [PyData.hasDict], by simp [PyData.leavesShort, hs], by simp [PyData.depth], by simp [PyData.bulk]⟩
theorem ShD.str {x : Str} {D : Nat} (h : ∀ c ∈ x.cps.toList, c < 16 ^ 8) : ShD (.str x) D x.length := by
  refine ⟨by simp [PyData.showable], by simp [PyData.hasDict], ?_, by simp [PyData.depth], by simp [PyData.bulk]; exact Nat.le_refl _⟩
  simp only [PyData.leavesShort, List.all_eq_true, decide_eq_true_eq]
  exact h
theorem ShD.none {D : Nat} : ShD .none D 0 := ⟨rfl, rfl, rfl, by simp [PyData.depth], by simp [PyData.bulk]⟩
theorem ShL.nil {D : Nat} : ShL [] D 0 := ⟨rfl, rfl, rfl, by simp [PyData.depthAll], by simp [PyData.bulkAll]⟩
theorem ShL.cons {d : PyData} {ds : List PyData} {D N M : Nat} (h : ShD d D N) (k : ShL ds D M) : ShL (d :: ds) D (N + 1 + M) :=
  ⟨by simp [PyData.showableAll, h.sh, k.sh], by simp [PyData.hasDictAll, h.nd, k.nd], by simp [PyData.leavesShortAll, h.lv, k.lv], by
    have a := h.dp
    have b := k.dp
    simp only [PyData.depthAll]
    omega, by
    have a := h.bk
    have b := k.bk
    simp only [PyData.bulkAll]
    omega⟩
theorem ShL.up {ds : List PyData} {D D' N N' : Nat} (h : ShL ds D N) (a : D ≤ D') (b : N ≤ N') : ShL ds D' N' := ⟨h.sh, h.nd, h.lv, Nat.le_trans h.dp a, Nat.le_trans h.bk b⟩
theorem ShD.up {d : PyData} {D D' N N' : Nat} (h : ShD d D N) (a : D ≤ D') (b : N ≤ N') : ShD d D' N' := ⟨h.sh, h.nd, h.lv, Nat.le_trans h.dp a, Nat.le_trans h.bk b⟩
theorem ShL.tup {ds : List PyData} {D N : Nat} (h : ShL ds D N) : ShD (.tuple ds) (D + 1) N :=
  ⟨by simp [PyData.showable, h.sh], by simp [PyData.hasDict, h.nd], by simp [PyData.leavesShort, h.lv], by
    have a := h.dp
    simp only [PyData.depth]
    omega, by
    have b := h.bk
    simp only [PyData.bulk]
    omega⟩
theorem ShL.lst {ds : List PyData} {D N : Nat} (h : ShL ds D N) : ShD (.list ds) (D + 1) N :=
  ⟨by simp [PyData.showable, h.sh], by simp [PyData.hasDict, h.nd], by simp [PyData.leavesShort, h.lv], by
    have a := h.dp
    simp only [PyData.depth]
    omega, by
    have b := h.bk
    simp only [PyData.bulk]
    omega⟩
theorem ShL.all {D N : Nat} : ∀ {ds : List PyData}, (∀ d ∈ ds, ShD d D N) → ShL ds D (ds.length * (N + 1))
  | [], _ => by
    rw [List.length_nil, Nat.zero_mul]
    exact ShL.nil
  | d :: ds, h => by
    have a := ShL.cons (h d List.mem_cons_self) (ShL.all (ds := ds) fun x hx => h x (List.mem_cons_of_mem _ hx))
    refine a.up (Nat.le_refl _) ?_
    rw [List.length_cons, Nat.succ_mul]
    omega
theorem ShD.len {d : PyData} {D N : Nat} (h : ShD d D N) (b : N ≤ 27000) : d.shown.length ≤ sizeLine := by
  have e := PyData.shown_le_bulk 600 (by decide) d h.lv
  have e2 : (600 + 2) * d.bulk ≤ 602 * 27000 := Nat.mul_le_mul_left _ (Nat.le_trans h.bk b)
  have e3 : 602 * 27000 + 600 ≤ sizeLine := by decide
  omega
theorem w_repD {K : PySem.W.Frag} {H : Hp} {Q : VK} {a : Addr} {d : PyData} {D N : Nat} (h : Dp K H (.ref a) d) (s : ShD d D N) (hD : D ≤ 3000) (hN : N ≤ 27000) (k : Q (.str d.shown) H) : gRep K [.ref a] H Q :=
  .inl ⟨a, d, rfl, h, s.sh, s.nd, Nat.le_trans s.dp hD, s.len hN, k⟩
theorem ShL.nats {D : Nat} {l : List Nat} (h : ∀ n ∈ l, n < 10 ^ 500) : ShL (nD l) D l.length := by
  have e := ShL.all (ds := nD l) (D := D) (N := 0) fun d hd => by
    obtain ⟨n, hn, rfl⟩ := List.mem_map.mp hd
    exact ShD.int (by rw [Int.natAbs_natCast]; exact h n hn)
  refine e.up (Nat.le_refl _) ?_
  unfold nD
  rw [List.length_map]
  omega

/-! stands shown -/
def oD : Option (Nat × List Nat) → PyData
  | none => .none
  | some (k, cs) => .tuple [.int (k : Nat), .tuple (nD cs)]
def oS (o : Option (Nat × List Nat)) : Str := match o with
  | none => "None"
  | some _ => (oD o).shown
theorem StdAt.tpd {H : Hp} {v : V} {k : Nat} {cs : List Nat} (h : StdAt H v k cs) : TpD H (oD (some (k, cs))) v := by
  obtain ⟨p, t, rfl, a, b⟩ := h
  exact tpd_t a (tpl_cons tpd_i (tpl_cons (tpd_t b (tpl_nat cs)) tpl_nil))
theorem std_sh {k : Nat} {cs : List Nat} (hk : k < 10 ^ 500) (hc : ∀ c ∈ cs, c < 10 ^ 500) : ShD (oD (some (k, cs))) 2 (cs.length + 2) := by
  have e1 : ShD (.int (k : Nat)) 1 0 := ShD.int (by rw [Int.natAbs_natCast]; exact hk)
  have e2 : ShD (.tuple (nD cs)) 1 cs.length := (ShL.nats (D := 0) hc).tup
  exact ((ShL.cons e1 (ShL.cons e2 ShL.nil)).tup).up (Nat.le_refl _) (by omega)
theorem w_repStd {K : PySem.W.Frag} {H : Hp} {Q : VK} {v : V} {o : Option (Nat × List Nat)} (h : OStd H v o) (b : ∀ k cs, o = some (k, cs) → k < 10 ^ 500 ∧ cs.length ≤ 20 ∧ ∀ c ∈ cs, c < 10 ^ 500) (k : Q (.str (oS o)) H) : gRep K [v] H Q := by
  cases o with
  | none =>
    have h : v = .non := h
    subst h
    exact w_repN k
  | some p =>
    obtain ⟨n, cs⟩ := p
    obtain ⟨b1, b2, b3⟩ := b n cs rfl
    have h1 := h.tpd
    obtain ⟨p, t, rfl, _, _⟩ := id h
    exact w_repD (TpD.dp _ _ h1) (std_sh b1 b3) (by decide) (by omega) k
/-- where a step leads -/
theorem aft_ok {b : Nat} {rs : List Rw} {k n M : Nat} {cs es : List Nat} (hg : Prg b rs) (hc : cs.length = b) (hM : ∀ c ∈ cs, c ≤ M) (e : aftr rs k cs = some (n, es)) : n ≤ 14 ∧ es.length = b ∧ (∀ c ∈ es, c ≤ M + 1) ∧ n ≤ rs.length := by
  have h14 := hg.len
  cases hk : rs[k]? with
  | none =>
    unfold aftr at e
    rw [hk] at e
    cases e
  | some r =>
    have hro := hg.ok r (List.mem_of_getElem? hk)
    have hkl : k < rs.length := (List.getElem?_eq_some_iff.mp hk).1
    have up : ∀ c ∈ cs, c ≤ M + 1 := fun c hc => Nat.le_succ_of_le (hM c hc)
    have hgd : ∀ j, cs.getD j 0 ≤ M := fun j => by
      rw [List.getD_eq_getElem?_getD]
      cases h : cs[j]? with
      | none => exact Nat.zero_le _
      | some x => exact hM x (List.mem_of_getElem? h)
    cases r with
    | up j =>
      rw [aft_up hk] at e
      cases e
      refine ⟨by omega, by rw [List.length_set]; exact hc, fun c hc => ?_, by omega⟩
      rcases List.mem_or_eq_of_mem_set hc with h | h
      · exact up c h
      · have := hgd j
        omega
    | dn j =>
      by_cases z : cs.getD j 0 = 0
      · rw [aft_dn0 hk z] at e
        cases e
      · rw [aft_dn hk z] at e
        cases e
        refine ⟨by omega, by rw [List.length_set]; exact hc, fun c hc => ?_, by omega⟩
        rcases List.mem_or_eq_of_mem_set hc with h | h
        · exact up c h
        · have := hgd j
          omega
    | br j g =>
      have hg2 : g < rs.length := hro.2
      by_cases z : cs.getD j 0 = 0
      · rw [aft_br0 hk z] at e
        cases e
        exact ⟨by omega, hc, up, by omega⟩
      · rw [aft_br hk z] at e
        cases e
        exact ⟨by omega, hc, up, by omega⟩
    | go g =>
      have hg2 : g < rs.length := hro
      rw [aft_go hk] at e
      cases e
      exact ⟨by omega, hc, up, by omega⟩
    | st =>
      rw [aft_st hk] at e
      cases e

/-! runs -/
def runL (rs : List Rw) : Nat → Nat × List Nat → List (Nat × List Nat)
  | 0, s => [s]
  | n + 1, s => match aftr rs s.1 s.2 with
    | none => [s]
    | some t => s :: runL rs n t
theorem runL_0 (rs : List Rw) (s : Nat × List Nat) : runL rs 0 s = [s] := rfl
theorem runL_no {rs : List Rw} {s : Nat × List Nat} (h : aftr rs s.1 s.2 = none) (n : Nat) : runL rs n s = [s] := by
  cases n with
  | zero => rfl
  | succ n =>
    unfold runL
    rw [h]
theorem runL_go {rs : List Rw} {s t : Nat × List Nat} (h : aftr rs s.1 s.2 = some t) (n : Nat) : runL rs (n + 1) s = s :: runL rs n t := by
  rw [runL]
  rw [h]
theorem runL_head (rs : List Rw) (n : Nat) (s : Nat × List Nat) : ∃ l, runL rs n s = s :: l := by
  cases n with
  | zero => exact ⟨[], rfl⟩
  | succ n =>
    cases h : aftr rs s.1 s.2 with
    | none => exact ⟨[], runL_no h _⟩
    | some t => exact ⟨_, runL_go h n⟩
theorem runL_len (rs : List Rw) : ∀ (n : Nat) (s : Nat × List Nat), 1 ≤ (runL rs n s).length ∧ (runL rs n s).length ≤ n + 1
  | 0, s => ⟨Nat.le_refl _, Nat.le_refl _⟩
  | n + 1, s => by
    cases h : aftr rs s.1 s.2 with
    | none =>
      rw [runL_no h]
      exact ⟨Nat.le_refl _, Nat.le_add_left _ _⟩
    | some t =>
      rw [runL_go h, List.length_cons]
      have := (runL_len rs n t).2
      omega
theorem runL_take (rs : List Rw) : ∀ (n m : Nat) (s : Nat × List Nat), n ≤ m → runL rs n s = (runL rs m s).take (n + 1)
  | 0, m, s, _ => by
    obtain ⟨l, hl⟩ := runL_head rs m s
    rw [hl]
    rfl
  | n + 1, 0, s, h => absurd h (by omega)
  | n + 1, m + 1, s, h => by
    cases e : aftr rs s.1 s.2 with
    | none =>
      rw [runL_no e, runL_no e]
      rfl
    | some t =>
      rw [runL_go e, runL_go e, List.take_succ_cons, runL_take rs n m t (by omega)]
theorem runL_next {rs : List Rw} : ∀ {n : Nat} {s u v : Nat × List Nat} {i : Nat}, (runL rs n s)[i]? = some u → (runL rs n s)[i + 1]? = some v → aftr rs u.1 u.2 = some v
  | 0, s, u, v, i, _, h2 => by
    rw [runL_0] at h2
    cases h2
  | n + 1, s, u, v, i, h1, h2 => by
    cases e : aftr rs s.1 s.2 with
    | none =>
      rw [runL_no e] at h2
      cases h2
    | some t =>
      rw [runL_go e] at h1 h2
      cases i with
      | zero =>
        cases h1
        obtain ⟨l, hl⟩ := runL_head rs n t
        rw [hl] at h2
        cases h2
        exact e
      | succ i => exact runL_next (n := n) (s := t) h1 h2
/-- the word of a run by its last stand -/
def wordR (rs : List Rw) (s : Nat × List Nat) : Str := if rs[s.1]? = some .st then "stopped" else if aftr rs s.1 s.2 = none then "stuck" else "going"
/-- what a stand of a run keeps -/
structure SOk (b : Nat) (rs : List Rw) (M : Nat) (s : Nat × List Nat) : Prop where
  k : s.1 < rs.length
  l : s.2.length = b
  c : ∀ c ∈ s.2, c ≤ M
theorem aft_in {b : Nat} {rs : List Rw} {k : Nat} {cs : List Nat} {t : Nat × List Nat} (hg : Prg b rs) (e : aftr rs k cs = some t) : t.1 < rs.length := by
  cases hk : rs[k]? with
  | none =>
    unfold aftr at e
    rw [hk] at e
    cases e
  | some r =>
    have hro := hg.ok r (List.mem_of_getElem? hk)
    obtain ⟨us, r0, hfin, hend⟩ := hg.fin
    have hlen : rs.length = us.length + 1 := by rw [hfin, List.length_append]; rfl
    have hkl : k < rs.length := (List.getElem?_eq_some_iff.mp hk).1
    have nl : ¬ r.ends → k + 1 < rs.length := fun h => by
      apply Classical.byContradiction
      intro h2
      have : k = us.length := by omega
      rw [hfin, this, List.getElem?_append_right (Nat.le_refl _), Nat.sub_self] at hk
      cases hk
      exact h hend
    cases r with
    | up j =>
      rw [aft_up hk] at e
      cases e
      exact nl (fun h => h)
    | dn j =>
      by_cases z : cs.getD j 0 = 0
      · rw [aft_dn0 hk z] at e
        cases e
      · rw [aft_dn hk z] at e
        cases e
        exact nl (fun h => h)
    | br j g =>
      by_cases z : cs.getD j 0 = 0
      · rw [aft_br0 hk z] at e
        cases e
        exact hro.2
      · rw [aft_br hk z] at e
        cases e
        exact nl (fun h => h)
    | go g =>
      rw [aft_go hk] at e
      cases e
      exact hro
    | st =>
      rw [aft_st hk] at e
      cases e
theorem SOk.next {b : Nat} {rs : List Rw} {M : Nat} {s t : Nat × List Nat} (hg : Prg b rs) (h : SOk b rs M s) (e : aftr rs s.1 s.2 = some t) : SOk b rs (M + 1) t := by
  obtain ⟨n, es⟩ := t
  obtain ⟨_, e2, e3, _⟩ := aft_ok hg h.l h.c e
  exact ⟨aft_in hg e, e2, e3⟩
theorem SOk.up {b : Nat} {rs : List Rw} {M N : Nat} {s : Nat × List Nat} (h : SOk b rs M s) (l : M ≤ N) : SOk b rs N s := ⟨h.k, h.l, fun c hc => Nat.le_trans (h.c c hc) l⟩
theorem runL_ok {b : Nat} {rs : List Rw} (hg : Prg b rs) : ∀ {n M : Nat} {s : Nat × List Nat}, SOk b rs M s → ∀ t ∈ runL rs n s, SOk b rs (M + n) t
  | 0, M, s, h, t, ht => by
    rw [runL_0] at ht
    rw [List.mem_singleton.mp ht]
    exact h
  | n + 1, M, s, h, t, ht => by
    cases e : aftr rs s.1 s.2 with
    | none =>
      rw [runL_no e] at ht
      rw [List.mem_singleton.mp ht]
      exact h.up (Nat.le_add_right _ _)
    | some u =>
      rw [runL_go e] at ht
      rcases List.mem_cons.mp ht with rfl | ht
      · exact h.up (Nat.le_add_right _ _)
      · exact (runL_ok hg (h.next hg e) t ht).up (by omega)
theorem SOk.start {b : Nat} {rs : List Rw} {M : Nat} {bs : List Nat} (hg : Prg b rs) (hl : bs.length = b) (hc : ∀ c ∈ bs, c ≤ M) : SOk b rs M (0, bs) := ⟨hg.pos, hl, hc⟩
/-- a list of stands as told -/
abbrev SdL (H : Hp) (xs : List V) (ss : List (Nat × List Nat)) : Prop := Paired (fun x s => StdAt H x s.1 s.2) xs ss
theorem SdL.tk {H H' : Hp} {xs : List V} {ss : List (Nat × List Nat)} (h : SdL H xs ss) (e : Tk H H') : SdL H' xs ss := paired_mono (fun _ _ q => q.tk e) h
def sD (ss : List (Nat × List Nat)) : List PyData := ss.map fun s => oD (some s)
theorem SdL.dp {K : PySem.W.Frag} {H : Hp} : ∀ {xs : List V} {ss : List (Nat × List Nat)}, SdL H xs ss → DpAll K H xs (sD ss)
  | _, _, .nil => .nil
  | _, _, .cons a b => .cons (TpD.dp _ _ a.tpd) (SdL.dp b)
theorem sD_sh {ss : List (Nat × List Nat)} (h : ∀ s ∈ ss, s.1 < 10 ^ 500 ∧ s.2.length ≤ 5 ∧ ∀ c ∈ s.2, c < 10 ^ 500) : ShL (sD ss) 2 (ss.length * 8) := by
  have e := ShL.all (ds := sD ss) (D := 2) (N := 7) fun d hd => by
    obtain ⟨s, hs, rfl⟩ := List.mem_map.mp hd
    obtain ⟨h1, h2, h3⟩ := h s hs
    exact (std_sh h1 h3).up (Nat.le_refl _) (by omega)
  unfold sD at e ⊢
  rw [List.length_map] at e
  exact e
/-- a word and the stands -/
def wsD (w : Str) (ss : List (Nat × List Nat)) : PyData := .tuple [.str w, .list (sD ss)]
theorem wsD_dp {K : PySem.W.Frag} {H : Hp} {t L : Addr} {w : Str} {xs : List V} {ss : List (Nat × List Nat)} (h1 : H t = some (.tup [.str w, .ref L])) (h2 : H L = some (.lst xs)) (h3 : SdL H xs ss) : Dp K H (.ref t) (wsD w ss) :=
  .tup (st_of h1) (.cons (.str _) (.cons (.lst (sq_of h2) h3.dp) .nil))
theorem wsD_sh {w : Str} {ss : List (Nat × List Nat)} (hw : ∀ c ∈ w.cps.toList, c < 16 ^ 8) (h : ∀ s ∈ ss, s.1 < 10 ^ 500 ∧ s.2.length ≤ 5 ∧ ∀ c ∈ s.2, c < 10 ^ 500) : ShD (wsD w ss) 4 (w.length + ss.length * 8 + 2) :=
  ((ShL.cons ((ShD.str (D := 3) hw)) (ShL.cons ((sD_sh h).lst) ShL.nil)).tup).up (Nat.le_refl _) (by omega)
theorem wordR_ok (rs : List Rw) (s : Nat × List Nat) : (∀ c ∈ (wordR rs s).cps.toList, c < 16 ^ 8) ∧ (wordR rs s).length ≤ 7 := by
  have e : wordR rs s = "stopped" ∨ wordR rs s = "stuck" ∨ wordR rs s = "going" := by
    unfold wordR
    split
    · exact .inl rfl
    · split
      · exact .inr (.inl rfl)
      · exact .inr (.inr rfl)
  rcases e with e | e | e <;> rw [e] <;> decide +kernel
/-- a list's or a tuple's contents as a tuple -/
theorem w_gTpl2 {K : PySem.W.Frag} {H : Hp} {Q : VK} {p : Addr} {ys : List V} (h : H p = some (.lst ys) ∨ H p = some (.tup ys)) (k : ∀ l H', Sm H H' → H' l = some (.tup ys) → Q (.ref l) H') : gTpl K [.ref p] H Q := by
  rcases h with h | h
  · exact w_gTplL (sq_of h) fun l H' _ s g => k l H' s g
  · exact ⟨p, ys, rfl, .inr ⟨st_of h, k p H (Same.refl _) h⟩⟩
theorem w_len2 {K : PySem.W.Frag} {H : Hp} {Q : VK} {p : Addr} {ys : List V} (h : H p = some (.lst ys) ∨ H p = some (.tup ys)) (k : Q (.int (ys.length : Nat)) H) : gLen K [.ref p] H Q := by
  rcases h with h | h
  · exact w_lenL (sq_of h) k
  · exact w_lenT (st_of h) k
theorem wordR_st {rs : List Rw} {s : Nat × List Nat} (h : rs[s.1]? = some .st) : wordR rs s = "stopped" := if_pos h
theorem wordR_stuck {rs : List Rw} {s : Nat × List Nat} {r : Rw} (h : rs[s.1]? = some r) (n : r ≠ .st) (e : aftr rs s.1 s.2 = none) : wordR rs s = "stuck" := by
  unfold wordR
  rw [if_neg (by rw [h]; exact fun z => n (Option.some.inj z)), if_pos e]
theorem wordR_going {rs : List Rw} {s t : Nat × List Nat} (e : aftr rs s.1 s.2 = some t) : wordR rs s = "going" := by
  unfold wordR
  rw [if_neg (fun z => by rw [aft_st z] at e; cases e), if_neg (by rw [e]; exact fun z => nomatch z)]
theorem runL_more {rs : List Rw} {M : Nat} {bs : List Nat} {pre : List (Nat × List Nat)} {last t : Nat × List Nat} (h : runL rs M (0, bs) = pre ++ runL rs (M - pre.length) last) (e : aftr rs last.1 last.2 = some t) (l : pre.length + 1 ≤ M) : runL rs M (0, bs) = (pre ++ [last]) ++ runL rs (M - (pre ++ [last]).length) t := by
  have e1 : M - pre.length = (M - (pre ++ [last]).length) + 1 := by rw [List.length_append]; show _ = M - (pre.length + 1) + 1; omega
  rw [h, e1, runL_go e, List.append_assoc]
  rfl
theorem runL_end {rs : List Rw} {M : Nat} {bs : List Nat} {pre : List (Nat × List Nat)} {last : Nat × List Nat} (h : runL rs M (0, bs) = pre ++ runL rs (M - pre.length) last) (e : aftr rs last.1 last.2 = none ∨ M ≤ pre.length) : runL rs M (0, bs) = pre ++ [last] := by
  rw [h]
  rcases e with e | e
  · rw [runL_no e]
  · rw [show M - pre.length = 0 by omega, runL_0]
theorem bnd_ex : ∀ cs : List Nat, ∃ M, ∀ c ∈ cs, c ≤ M
  | [] => ⟨0, fun c hc => by cases hc⟩
  | x :: cs => by
    obtain ⟨M, hM⟩ := bnd_ex cs
    refine ⟨max x M, fun c hc => ?_⟩
    rcases List.mem_cons.mp hc with rfl | hc
    · omega
    · have := hM c hc
      omega
theorem aft_len {b : Nat} {rs : List Rw} {k : Nat} {cs : List Nat} {t : Nat × List Nat} (hg : Prg b rs) (hc : cs.length = b) (e : aftr rs k cs = some t) : t.2.length = b := by
  obtain ⟨M, hM⟩ := bnd_ex cs
  obtain ⟨n, es⟩ := t
  exact (aft_ok hg hc hM e).2.1
theorem snoc_inj {α : Type} {p q : List α} {x y : α} (h : p ++ [x] = q ++ [y]) : p = q ∧ x = y := by
  have := List.append_inj' h rfl
  exact ⟨this.1, by simpa using this.2⟩
/-- a shorter run -/
theorem run_short {rs : List Rw} {bs : List Nat} {M N : Nat} {pre pre2 : List (Nat × List Nat)} {last last2 : Nat × List Nat} (h : runL rs M (0, bs) = pre ++ [last]) (h2 : runL rs N (0, bs) = pre2 ++ [last2]) (l : N ≤ M) (s : N < pre.length) : pre2 ++ [last2] = (pre ++ [last]).take (N + 1) ∧ wordR rs last2 = "going" := by
  have e := runL_take rs N M (0, bs) l
  rw [h2, h] at e
  refine ⟨e, ?_⟩
  have hl : (pre2 ++ [last2]).length = N + 1 := by
    rw [e, List.length_take, List.length_append]
    show min (N + 1) (pre.length + 1) = _
    omega
  have hl2 : pre2.length = N := by
    rw [List.length_append] at hl
    have : pre2.length + 1 = N + 1 := hl
    omega
  have e1 : (pre ++ [last])[N]? = some last2 := by
    have e2 : (pre2 ++ [last2])[N]? = some last2 := by rw [List.getElem?_append_right (by omega), hl2, Nat.sub_self]; rfl
    rw [e, List.getElem?_take] at e2
    rw [if_pos (by omega)] at e2
    exact e2
  have hN1 : N + 1 < (pre ++ [last]).length := by
    rw [List.length_append]
    show N + 1 < pre.length + 1
    omega
  obtain ⟨v, e3⟩ : ∃ v, (pre ++ [last])[N + 1]? = some v := ⟨_, List.getElem?_eq_getElem hN1⟩
  rw [← h] at e1 e3
  exact wordR_going (runL_next e1 e3)
theorem run_same {rs : List Rw} {bs : List Nat} {M N : Nat} {pre pre2 : List (Nat × List Nat)} {last last2 : Nat × List Nat} (h : runL rs M (0, bs) = pre ++ [last]) (h2 : runL rs N (0, bs) = pre2 ++ [last2]) (l : N ≤ M) (s : pre.length ≤ N) : pre2 = pre ∧ last2 = last := by
  have e := runL_take rs N M (0, bs) l
  rw [h2, h, List.take_of_length_le (by rw [List.length_append]; show pre.length + 1 ≤ N + 1; omega)] at e
  exact snoc_inj e
theorem sok_sh {b M : Nat} {rs : List Rw} {ss : List (Nat × List Nat)} (hg : Prg b rs) (h : ∀ s ∈ ss, SOk b rs M s) (hM : M < 10 ^ 500) : ∀ s ∈ ss, s.1 < 10 ^ 500 ∧ s.2.length ≤ 5 ∧ ∀ c ∈ s.2, c < 10 ^ 500 := fun s hs => by
  obtain ⟨h1, h2, h3⟩ := h s hs
  have a := hg.len
  have b := hg.b5
  have big : 100 < 10 ^ 500 := by decide +kernel
  exact ⟨by omega, by omega, fun c hc => Nat.lt_of_le_of_lt (h3 c hc) hM⟩

/-! rows one later, behind a go -/
def Rw.inc : Rw → Rw
  | .br j g => .br j (g + 1)
  | .go g => .go (g + 1)
  | r => r
def shR (f : Nat) (rs : List Rw) : List Rw := .go (f + 1) :: rs.map Rw.inc
def sh1 (s : Nat × List Nat) : Nat × List Nat := (s.1 + 1, s.2)
theorem Rw.inc_ok {b n : Nat} : ∀ {r : Rw}, r.ok b n → r.inc.ok b (n + 1)
  | .up _, h => h
  | .dn _, h => h
  | .br _ _, h => ⟨h.1, Nat.succ_lt_succ h.2⟩
  | .go _, h => Nat.succ_lt_succ h
  | .st, _ => trivial
theorem shR_prg {b f : Nat} {rs : List Rw} (hg : Prg b rs) (hf : f < rs.length) (hl : rs.length < 14) : Prg b (shR f rs) := by
  have e : (shR f rs).length = rs.length + 1 := by
    show (rs.map Rw.inc).length + 1 = _
    rw [List.length_map]
  refine ⟨hg.b1, hg.b5, ?_, by omega, ?_⟩
  · rw [e]
    refine RwsOk.cons (r := Rw.go (f + 1)) (show f + 1 < rs.length + 1 by omega) fun r hr => ?_
    obtain ⟨q, hq, rfl⟩ := List.mem_map.mp hr
    exact Rw.inc_ok (hg.ok q hq)
  · obtain ⟨us, r, e1, e2⟩ := hg.fin
    refine ⟨.go (f + 1) :: us.map Rw.inc, r.inc, ?_, ?_⟩
    · show Rw.go (f + 1) :: rs.map Rw.inc = _
      rw [e1, List.map_append]
      rfl
    · cases r
      · exact e2
      · exact e2
      · exact e2
      · exact trivial
      · exact trivial
theorem shR_get {f k : Nat} {rs : List Rw} : (shR f rs)[k + 1]? = (rs[k]?).map Rw.inc := by
  show (rs.map Rw.inc)[k]? = _
  rw [List.getElem?_map]
theorem shR_aft {f k : Nat} {rs : List Rw} {cs : List Nat} : aftr (shR f rs) (k + 1) cs = (aftr rs k cs).map sh1 := by
  have e := @shR_get f k rs
  cases h : rs[k]? with
  | none =>
    rw [h] at e
    unfold aftr
    rw [e, h]
    rfl
  | some r =>
    rw [h] at e
    cases r with
    | up j => rw [aft_up e, aft_up h]; rfl
    | dn j =>
      by_cases z : cs.getD j 0 = 0
      · rw [aft_dn0 e z, aft_dn0 h z]; rfl
      · rw [aft_dn e z, aft_dn h z]; rfl
    | br j g =>
      have e : (shR f rs)[k + 1]? = some (.br j (g + 1)) := e
      by_cases z : cs.getD j 0 = 0
      · rw [aft_br0 e z, aft_br0 h z]; rfl
      · rw [aft_br e z, aft_br h z]; rfl
    | go g =>
      have e : (shR f rs)[k + 1]? = some (.go (g + 1)) := e
      rw [aft_go e, aft_go h]; rfl
    | st => rw [aft_st e, aft_st h]; rfl
theorem shR_run {f : Nat} {rs : List Rw} : ∀ (n : Nat) (s : Nat × List Nat), runL (shR f rs) n (sh1 s) = (runL rs n s).map sh1
  | 0, s => rfl
  | n + 1, s => by
    have e : aftr (shR f rs) (sh1 s).1 (sh1 s).2 = (aftr rs s.1 s.2).map sh1 := shR_aft
    cases h : aftr rs s.1 s.2 with
    | none =>
      rw [h] at e
      rw [runL_no e, runL_no h]
      rfl
    | some t =>
      rw [h] at e
      rw [runL_go e, runL_go h, shR_run n t]
      rfl
theorem shR_word {f : Nat} {rs : List Rw} (s : Nat × List Nat) : wordR (shR f rs) (sh1 s) = wordR rs s := by
  have e : aftr (shR f rs) (sh1 s).1 (sh1 s).2 = (aftr rs s.1 s.2).map sh1 := shR_aft
  cases h : aftr rs s.1 s.2 with
  | some t =>
    rw [h] at e
    rw [wordR_going e, wordR_going h]
  | none =>
    rw [h] at e
    have g := @shR_get f s.1 rs
    cases hk : rs[s.1]? with
    | none =>
      rw [hk] at g
      have g : (shR f rs)[(sh1 s).1]? = none := g
      unfold wordR
      rw [if_neg (by rw [g]; exact fun z => nomatch z), if_pos (show aftr (shR f rs) (sh1 s).1 (sh1 s).2 = none from e), if_neg (by rw [hk]; exact fun z => nomatch z), if_pos h]
    | some r =>
      rw [hk] at g
      have g : (shR f rs)[(sh1 s).1]? = some r.inc := g
      by_cases z : r = .st
      · subst z
        rw [wordR_st g, wordR_st hk]
      · rw [wordR_stuck hk z h, wordR_stuck g (by cases r <;> first | exact absurd rfl z | exact fun w => nomatch w) e]
theorem runL_drop {rs : List Rw} : ∀ {n i : Nat} {s u : Nat × List Nat}, (runL rs n s)[i]? = some u → (runL rs n s).drop i = runL rs (n - i) u
  | n, 0, s, u, h => by
    obtain ⟨l, hl⟩ := runL_head rs n s
    rw [hl] at h
    cases h
    rfl
  | 0, i + 1, s, u, h => by
    rw [runL_0] at h
    cases h
  | n + 1, i + 1, s, u, h => by
    cases e : aftr rs s.1 s.2 with
    | none =>
      rw [runL_no e] at h
      cases h
    | some t =>
      rw [runL_go e] at h ⊢
      rw [List.drop_succ_cons, Nat.succ_sub_succ]
      exact runL_drop (n := n) h
/-- a run from a stand amid, led to by a go -/
theorem run_from {rs : List Rw} {M i : Nat} {bs : List Nat} {pre : List (Nat × List Nat)} {last u : Nat × List Nat} (h : runL rs M (0, bs) = pre ++ [last]) (hu : (pre ++ [last])[i]? = some u) :
    runL (shR u.1 rs) ((pre ++ [last]).length - i) (0, u.2) = (0, u.2) :: ((pre ++ [last]).drop i).map sh1 := by
  have hi := (List.getElem?_eq_some_iff.mp hu).1
  have e1 : aftr (shR u.1 rs) 0 u.2 = some (u.1 + 1, u.2) := aft_go (by rfl)
  obtain ⟨n, hn⟩ : ∃ n, (pre ++ [last]).length - i = n + 1 := ⟨(pre ++ [last]).length - i - 1, by omega⟩
  have e2 := shR_run (f := u.1) (rs := rs) n u
  rw [hn, runL_go e1]
  rw [show ((u.1 + 1, u.2) : Nat × List Nat) = sh1 u from rfl, e2]
  have hd : (pre ++ [last]).drop i = runL rs (M - i) u := by
    rw [← h]
    exact runL_drop (by rw [h]; exact hu)
  have hl : (runL rs (M - i) u).length = n + 1 := by rw [← hd, List.length_drop]; exact hn
  have h2 : n ≤ M - i := by
    have := (runL_len rs (M - i) u).2
    omega
  rw [hd, runL_take rs n (M - i) u h2, List.take_of_length_le (by omega)]
theorem cl_nats : ∀ l : List Nat, PyData.canLayAll0 (nD l) = true ∧ PyData.depthAll (nD l) = 0
  | [] => ⟨rfl, rfl⟩
  | x :: l => by
    obtain ⟨h1, h2⟩ := cl_nats l
    unfold nD at h1 h2
    exact ⟨by simp [nD, PyData.canLayAll0, PyData.canLay0, h1], by simp [nD, PyData.depthAll, PyData.depth, h2]⟩
theorem std_cl (s : Nat × List Nat) : (oD (some s)).canLay0 = true ∧ (oD (some s)).depth = 2 := by
  obtain ⟨k, cs⟩ := s
  obtain ⟨h1, h2⟩ := cl_nats cs
  exact ⟨by simp [oD, PyData.canLayAll0, PyData.canLay0, h1], by simp [oD, PyData.depthAll, PyData.depth, h2]⟩
theorem std_shaped (s : Nat × List Nat) : SeqAt.shaped (oD (some s)) = true := by
  obtain ⟨h1, h2⟩ := std_cl s
  show ((oD (some s)).canLay0 && decide ((oD (some s)).depth ≤ 64)) = true
  rw [h1, h2]
  rfl
theorem sds_cl : ∀ ss : List (Nat × List Nat), PyData.canLayAll0 (sD ss) = true ∧ PyData.depthAll (sD ss) ≤ 2
  | [] => ⟨rfl, by simp [sD, PyData.depthAll]⟩
  | s :: ss => by
    obtain ⟨h1, h2⟩ := sds_cl ss
    obtain ⟨h3, h4⟩ := std_cl s
    unfold sD at h1 h2
    refine ⟨by simp [sD, PyData.canLayAll0, h3, h1], ?_⟩
    simp only [sD, List.map_cons, PyData.depthAll]
    omega
theorem sds_shaped (ss : List (Nat × List Nat)) : SeqAt.shaped (.list (sD ss)) = true := by
  obtain ⟨h1, h2⟩ := sds_cl ss
  have h3 : (PyData.list (sD ss)).depth ≤ 64 := by
    simp only [PyData.depth]
    omega
  show ((PyData.list (sD ss)).canLay0 && decide ((PyData.list (sD ss)).depth ≤ 64)) = true
  rw [Bool.and_eq_true]
  exact ⟨by simp only [PyData.canLay0]; exact h1, decide_eq_true h3⟩
theorem RwAt.inc {H : Hp} {v : V} {r : Rw} (h : RwAt H v r) (z : r.inc = r) : RwAt H v r.inc := by
  rw [z]
  exact h

/-! rows alike -/
theorem str_beq {a c : Str} (h : a ≠ c) : (a == c) = false := by simpa using h
theorem rw_eqv (r q : Rw) : PyData.eqv (.tuple r.ds) (.tuple q.ds) = decide (r = q) := by
  have n12 := str_beq (show Str.ofString "raise" ≠ Str.ofString "lower" by decide +kernel)
  have n13 := str_beq (show Str.ofString "raise" ≠ Str.ofString "if" by decide +kernel)
  have n14 := str_beq (show Str.ofString "raise" ≠ Str.ofString "go" by decide +kernel)
  have n15 := str_beq (show Str.ofString "raise" ≠ Str.ofString "stop" by decide +kernel)
  have n23 := str_beq (show Str.ofString "lower" ≠ Str.ofString "if" by decide +kernel)
  have n24 := str_beq (show Str.ofString "lower" ≠ Str.ofString "go" by decide +kernel)
  have n25 := str_beq (show Str.ofString "lower" ≠ Str.ofString "stop" by decide +kernel)
  have n34 := str_beq (show Str.ofString "if" ≠ Str.ofString "go" by decide +kernel)
  have n35 := str_beq (show Str.ofString "if" ≠ Str.ofString "stop" by decide +kernel)
  have n45 := str_beq (show Str.ofString "go" ≠ Str.ofString "stop" by decide +kernel)
  have n21 := str_beq (show Str.ofString "lower" ≠ Str.ofString "raise" by decide +kernel)
  have n31 := str_beq (show Str.ofString "if" ≠ Str.ofString "raise" by decide +kernel)
  have n41 := str_beq (show Str.ofString "go" ≠ Str.ofString "raise" by decide +kernel)
  have n51 := str_beq (show Str.ofString "stop" ≠ Str.ofString "raise" by decide +kernel)
  have n32 := str_beq (show Str.ofString "if" ≠ Str.ofString "lower" by decide +kernel)
  have n42 := str_beq (show Str.ofString "go" ≠ Str.ofString "lower" by decide +kernel)
  have n52 := str_beq (show Str.ofString "stop" ≠ Str.ofString "lower" by decide +kernel)
  have n43 := str_beq (show Str.ofString "go" ≠ Str.ofString "if" by decide +kernel)
  have n53 := str_beq (show Str.ofString "stop" ≠ Str.ofString "if" by decide +kernel)
  have n54 := str_beq (show Str.ofString "stop" ≠ Str.ofString "go" by decide +kernel)
  have ib : ∀ a b : Nat, ((a : Int) == (b : Int)) = decide (a = b) := fun a b => by
    by_cases h : a = b
    · subst h; simp
    · rw [decide_eq_false h]
      simpa using fun e : (a : Int) = b => h (Int.ofNat_inj.mp e)
  cases r <;> cases q <;> simp [Rw.ds, PyData.eqv, PyData.eqvAll, n12, n13, n14, n15, n23, n24, n25, n34, n35, n45, n21, n31, n41, n51, n32, n42, n52, n43, n53, n54, ib]
theorem rw_cl (r : Rw) : (PyData.tuple r.ds).canLay0 = true ∧ (PyData.tuple r.ds).depth ≤ 1 := by
  have s1 : PyData.strOk (Str.ofString "raise") = true := by decide +kernel
  have s2 : PyData.strOk (Str.ofString "lower") = true := by decide +kernel
  have s3 : PyData.strOk (Str.ofString "if") = true := by decide +kernel
  have s4 : PyData.strOk (Str.ofString "go") = true := by decide +kernel
  have s5 : PyData.strOk (Str.ofString "stop") = true := by decide +kernel
  cases r <;> simp [Rw.ds, PyData.canLay0, PyData.canLayAll0, PyData.depth, PyData.depthAll, s1, s2, s3, s4, s5]
theorem rw_shaped (r : Rw) : SeqAt.shaped (.tuple r.ds) = true := by
  obtain ⟨h1, h2⟩ := rw_cl r
  show ((PyData.tuple r.ds).canLay0 && decide ((PyData.tuple r.ds).depth ≤ 64)) = true
  rw [h1, decide_eq_true (by omega)]
  rfl
def rsD (rs : List Rw) : List PyData := rs.map fun r => .tuple r.ds
theorem rs_cl : ∀ rs : List Rw, PyData.canLayAll0 (rsD rs) = true ∧ PyData.depthAll (rsD rs) ≤ 1
  | [] => ⟨rfl, by simp [rsD, PyData.depthAll]⟩
  | r :: rs => by
    obtain ⟨h1, h2⟩ := rs_cl rs
    obtain ⟨h3, h4⟩ := rw_cl r
    unfold rsD at h1 h2
    refine ⟨by simp [rsD, PyData.canLayAll0, h3, h1], ?_⟩
    simp only [rsD, List.map_cons, PyData.depthAll]
    omega
theorem rs_eqv : ∀ rs qs : List Rw, PyData.eqvAll (rsD rs) (rsD qs) = decide (rs = qs)
  | [], [] => by simp [rsD, PyData.eqvAll]
  | [], _ :: _ => by simp [rsD, PyData.eqvAll]
  | _ :: _, [] => by simp [rsD, PyData.eqvAll]
  | r :: rs, q :: qs => by
    have e := rs_eqv rs qs
    unfold rsD at e
    simp only [rsD, List.map_cons, PyData.eqvAll, rw_eqv, e]
    by_cases h1 : r = q <;> by_cases h2 : rs = qs <;> simp [h1, h2]
theorem rs_shaped (rs : List Rw) : SeqAt.shaped (.tuple (rsD rs)) = true := by
  obtain ⟨h1, h2⟩ := rs_cl rs
  have h3 : (PyData.tuple (rsD rs)).depth ≤ 64 := by
    simp only [PyData.depth]
    omega
  show ((PyData.tuple (rsD rs)).canLay0 && decide ((PyData.tuple (rsD rs)).depth ≤ 64)) = true
  rw [Bool.and_eq_true]
  exact ⟨by simp only [PyData.canLay0]; exact h1, decide_eq_true h3⟩
theorem RwAt.dp {K : PySem.W.Frag} {H : Hp} {v : V} {r : Rw} (h : RwAt H v r) : Dp K H v (.tuple r.ds) := by
  obtain ⟨p, rfl, q⟩ := h
  exact .tup (st_of q) (TpL.dp _ _ r.tpl)
theorem RwsAt.dp {K : PySem.W.Frag} {H : Hp} : ∀ {vs : List V} {rs : List Rw}, RwsAt H vs rs → DpAll K H vs (rsD rs)
  | _, _, .nil => .nil
  | _, _, .cons a b => .cons a.dp (RwsAt.dp b)
/-- rows as tuples compared -/
theorem w_eqRows {K : PySem.W.Frag} {H : Hp} {Q : VK} {a b : Addr} {us vs : List V} {rs qs : List Rw} (h1 : H a = some (.tup us)) (h2 : RwsAt H us rs) (h3 : H b = some (.tup vs)) (h4 : RwsAt H vs qs) (k : Q (.bl (decide (rs = qs))) H) : gEq K (.ref a) (.ref b) H Q := by
  refine .inr ⟨.tuple (rsD rs), .tuple (rsD qs), .tup (st_of h1) h2.dp, .tup (st_of h3) h4.dp, rs_shaped rs, rs_shaped qs, ?_⟩
  rw [PyData.eqv, rs_eqv]
  exact k
theorem w_neRows {K : PySem.W.Frag} {H : Hp} {Q : VK} {a b : Addr} {us vs : List V} {rs : List Rw} (h1 : H a = some (.tup us)) (h2 : RwsAt H us rs) (h3 : H b = some (.tup vs)) (h4 : RwsAt H vs rs) (k : Q (.bl false) H) : gNe K (.ref a) (.ref b) H Q := by
  refine .inr ⟨.tuple (rsD rs), .tuple (rsD rs), .tup (st_of h1) h2.dp, .tup (st_of h3) h4.dp, rs_shaped rs, rs_shaped rs, ?_⟩
  rw [PyData.eqv, rs_eqv, decide_eq_true rfl]
  exact k
/-- a row against another one -/
theorem w_eqRow {K : PySem.W.Frag} {H : Hp} {Q : VK} {a b : Addr} {r q : Rw} (h1 : H a = some (.tup r.vs)) (h2 : H b = some (.tup q.vs)) (k : Q (.bl (decide (r = q))) H) : gEq K (.ref a) (.ref b) H Q := by
  refine .inr ⟨.tuple r.ds, .tuple q.ds, (rw_one h1).dp, (rw_one h2).dp, rw_shaped r, rw_shaped q, ?_⟩
  rw [rw_eqv]
  exact k
/-- the places of a row among rows -/
def plc (rs : List Rw) (q : Rw) (i : Nat) : List Nat := (List.range i).filter fun k => decide (rs[k]? = some q)
theorem plc_succ {rs : List Rw} {q : Rw} {i : Nat} : plc rs q (i + 1) = plc rs q i ++ (if rs[i]? = some q then [i] else []) := by
  unfold plc
  rw [List.range_succ, List.filter_append]
  by_cases h : rs[i]? = some q
  · rw [if_pos h, List.filter_cons_of_pos (by rw [decide_eq_true h]), List.filter_nil]
  · rw [if_neg h, List.filter_cons_of_neg (by rw [decide_eq_false h]; exact Bool.false_ne_true), List.filter_nil]
def mvR (w : Str) (j : Nat) : Rw := if w = "raise" then .up j else .dn j
theorem prc_eq {K : PySem.W.Frag} {C D : Addr} (a : PrC K C) (b : PrC K D) : C = D := ClsN.uniq a b

/-! a, b = a list -/
theorem pg_gl {X : Cx} {K : PySem.W.Frag} (hK : X.K = K) {es : List Expr} {k : Nat} {pos : Pos} {t : TGs} {n : Nat} (hc : X.calm = true) (h : PGs X es t) (hl : (assignEach es X.env).length = n := by rfl) (hst : (assignEach es X.env).findIdx? (·.1) = none := by rfl) :
    PG X (.Tuple es k pos) (L2.gLst K n t) := by
  subst hK
  exact pg_lst hc h hl hst
theorem w_glst {K : PySem.W.Frag} {n : Nat} {t : TGs} {σ : L2.St} {H : Hp} {Q : L2.St → Hp → Prop} {a : Addr} {xs : List V} (h : SqL K H a xs) (l : xs.length = n) (k : t xs σ H Q) : L2.gLst K n t (.ref a) σ H Q := ⟨a, xs, rfl, h, l, k⟩
local macro_rules | `(tactic| tm_at "rs") => `(tactic| first | ((with_reducible refine' w_glst ?h ?l ?k); (case h => tm_at "rsq"); (case l => rfl)) | fail "no")

def E5 (H : Hp) (x : V) : Prop := ∃ (t p : Addr) (m : Nat) (us : List V) (rs : List Rw), x = .ref t ∧ H t = some (.tup [.int (m : Nat), .ref p]) ∧ H p = some (.lst us) ∧ RwsAt H us rs ∧ Prg m rs
theorem E5.sm {H H' : Hp} {x : V} (h : E5 H x) (e : Sm H H') : E5 H' x := by
  obtain ⟨t, p, m, us, rs, rfl, h1, h2, h3, h4⟩ := h
  exact ⟨t, p, m, us, rs, rfl, e _ _ h1, e _ _ h2, h3.tk (Tk.sm e), h4⟩
/-- one that has nothing to do with the list at S -/
def E5N (H : Hp) (S : Addr) (x : V) : Prop := ∃ (t p : Addr) (m : Nat) (us : List V) (rs : List Rw), x = .ref t ∧ H t = some (.tup [.int (m : Nat), .ref p]) ∧ H p = some (.lst us) ∧ RwsAt H us rs ∧ Prg m rs ∧ p ≠ S
theorem E5N.sm {H H' : Hp} {S : Addr} {x : V} (h : E5N H S x) (e : Sm H H') : E5N H' S x := by
  obtain ⟨t, p, m, us, rs, rfl, h1, h2, h3, h4⟩ := h
  exact ⟨t, p, m, us, rs, rfl, e _ _ h1, e _ _ h2, h3.tk (Tk.sm e), h4⟩
theorem E5N.kp {H H' : Hp} {S : Addr} {x : V} {ys : List V} (h : E5N H S x) (hS : H S = some (.lst ys)) (e : Kp S H H') : E5N H' S x := by
  obtain ⟨t, p, m, us, rs, rfl, h1, h2, h3, h4, h5⟩ := h
  exact ⟨t, p, m, us, rs, rfl, Tk.kp hS e _ _ h1, e _ _ h5 h2, h3.tk (Tk.kp hS e), h4, h5⟩
theorem E5N.e {H : Hp} {S : Addr} {x : V} (h : E5N H S x) : E5 H x := by
  obtain ⟨t, p, m, us, rs, rfl, h1, h2, h3, h4, h5⟩ := h
  exact ⟨t, p, m, us, rs, rfl, h1, h2, h3, h4⟩
def sp_f_is_whole (K : PySem.W.Frag) : Sp := fun vs H Q E => ∃ (i : Int), vs = [.int i] ∧ ∀ H', Sm H H' → Q (.bl true) H'
theorem call_isWhole {K : PySem.W.Frag} {H : Hp} {Q : VK} {E : XK} {i : Int} (k : ∀ H', Sm H H' → Q (.bl true) H') : sp_f_is_whole K [.int i] H Q E := ⟨i, rfl, k⟩
local macro_rules | `(tactic| tm_at "rs") => `(tactic| (with_reducible refine call_isWhole (fun _ _ => ?_)))
def sp_f_is_formed (K : PySem.W.Frag) : Sp := fun vs H Q E => ∃ (p : Addr) (r : Rw), vs = [.ref p] ∧ H p = some (.tup r.vs) ∧ ∀ H', Sm H H' → Q (.bl true) H'
theorem call_isFormed {K : PySem.W.Frag} {H : Hp} {Q : VK} {E : XK} {p : Addr} {r : Rw} (hp : H p = some (.tup r.vs)) (k : ∀ H', Sm H H' → Q (.bl true) H') : sp_f_is_formed K [.ref p] H Q E := ⟨p, r, rfl, hp, k⟩
def sp_f_check_row (K : PySem.W.Frag) : Sp := fun vs H Q E => ∃ (p : Addr) (r : Rw) (m n t : Nat), vs = [.ref p, .int (m : Nat), .int (n : Nat), .int (t : Nat)] ∧ H p = some (.tup r.vs) ∧ r.ok m n ∧ ∀ H', Sm H H' → Q .non H'
theorem call_checkRow {K : PySem.W.Frag} {H : Hp} {Q : VK} {E : XK} {p : Addr} {r : Rw} {m n t : Nat} (hp : H p = some (.tup r.vs)) (ho : r.ok m n) (k : ∀ H', Sm H H' → Q .non H') : sp_f_check_row K [.ref p, .int (m : Nat), .int (n : Nat), .int (t : Nat)] H Q E := ⟨p, r, m, n, t, rfl, hp, ho, k⟩
def sp_f_check (K : PySem.W.Frag) : Sp := fun vs H Q E => ∃ (m : Nat) (a : Addr) (us : List V) (rs : List Rw), vs = [.int (m : Nat), .ref a] ∧ (H a = some (.lst us) ∨ H a = some (.tup us)) ∧ RwsAt H us rs ∧ Prg m rs ∧ ∀ H', Sm H H' → Q .non H'
theorem call_check {K : PySem.W.Frag} {H : Hp} {Q : VK} {E : XK} {m : Nat} {a : Addr} {us : List V} {rs : List Rw} (ha : H a = some (.lst us)) (hr : RwsAt H us rs) (hp : Prg m rs) (k : ∀ H', Sm H H' → Q .non H') : sp_f_check K [.int (m : Nat), .ref a] H Q E := ⟨m, a, us, rs, rfl, .inl ha, hr, hp, k⟩
theorem call_checkT {K : PySem.W.Frag} {H : Hp} {Q : VK} {E : XK} {m : Nat} {a : Addr} {us : List V} {rs : List Rw} (ha : H a = some (.tup us)) (hr : RwsAt H us rs) (hp : Prg m rs) (k : ∀ H', Sm H H' → Q .non H') : sp_f_check K [.int (m : Nat), .ref a] H Q E := ⟨m, a, us, rs, rfl, .inr ha, hr, hp, k⟩
def sp_f_Program__init (K : PySem.W.Frag) : Sp := fun vs H Q E => ∃ (p C dx : Addr) (m : Nat) (a : Addr) (us : List V) (rs : List Rw), vs = [.ref p, .int (m : Nat), .ref a] ∧ H p = some (.ins C dx []) ∧ PrC K C ∧ (H a = some (.lst us) ∨ H a = some (.tup us)) ∧ RwsAt H us rs ∧ Prg m rs ∧ ∀ H' t, Kp p H H' → H' p = some (.ins C dx [("boxes", .int (m : Nat)), ("rows", .ref t)]) → H' t = some (.tup us) → Q .non H'
theorem mk_prog {K : PySem.W.Frag} {H : Hp} {Q : VK} {E : XK} {C : Addr} {m : Nat} {a : Addr} {us : List V} {rs : List Rw} (hC : PrC K C) (ha : H a = some (.lst us)) (hr : RwsAt H us rs) (hg : Prg m rs) (k : ∀ p H', H p = none → Sm H H' → PrgAt K H' (.ref p) m rs → Q (.ref p) H') : MkE C (sp_f_Program__init K) Q E [.int (m : Nat), .ref a] H := fun x dx hx hd ne =>
  have s0 : Sm H (upd (upd H dx (.own x)) x (.ins C dx [])) := fun b o h => by rw [upd_ne (ne_of_none h hx), upd_ne (ne_of_none h hd)]; exact h
  ⟨x, C, dx, m, a, us, rs, rfl, upd_same, hC, .inl (s0 _ _ ha), hr.tk (Tk.sm s0), hg, fun H' t kp g gt =>
    have s1 : Sm H H' := fun b o h => kp b o (ne_of_none h hx) (s0 _ _ h)
    ⟨rfl, k x H' hx s1 ⟨x, C, dx, t, us, rfl, hC, g, gt, hr.tk (Tk.sm s1)⟩⟩⟩
theorem mk_progT {K : PySem.W.Frag} {H : Hp} {Q : VK} {E : XK} {C : Addr} {m : Nat} {a : Addr} {us : List V} {rs : List Rw} (hC : PrC K C) (ha : H a = some (.tup us)) (hr : RwsAt H us rs) (hg : Prg m rs) (k : ∀ p H', H p = none → Sm H H' → PrgAt K H' (.ref p) m rs → Q (.ref p) H') : MkE C (sp_f_Program__init K) Q E [.int (m : Nat), .ref a] H := fun x dx hx hd ne =>
  have s0 : Sm H (upd (upd H dx (.own x)) x (.ins C dx [])) := fun b o h => by rw [upd_ne (ne_of_none h hx), upd_ne (ne_of_none h hd)]; exact h
  ⟨x, C, dx, m, a, us, rs, rfl, upd_same, hC, .inr (s0 _ _ ha), hr.tk (Tk.sm s0), hg, fun H' t kp g gt =>
    have s1 : Sm H H' := fun b o h => kp b o (ne_of_none h hx) (s0 _ _ h)
    ⟨rfl, k x H' hx s1 ⟨x, C, dx, t, us, rfl, hC, g, gt, hr.tk (Tk.sm s1)⟩⟩⟩
def sp_f_law_text (K : PySem.W.Frag) : Sp := fun vs H Q E => ∃ (m : Nat) (p : Addr) (us : List V) (rs : List Rw), vs = [.int (m : Nat), .ref p] ∧ H p = some (.lst us) ∧ RwsAt H us rs ∧ RwsOk m rs.length rs ∧ m ≤ 100 ∧ rs.length ≤ 100 ∧ ∀ H', Sm H H' → Q (.str (pgT m rs)) H'
theorem call_lawText05 {K : PySem.W.Frag} {H : Hp} {Q : VK} {E : XK} {m : Nat} {p : Addr} {us : List V} {rs : List Rw} (hp : H p = some (.lst us)) (hR : RwsAt H us rs) (ho : RwsOk m rs.length rs) (hm : m ≤ 100) (hl : rs.length ≤ 100) (k : ∀ H', Sm H H' → Q (.str (pgT m rs)) H') : sp_f_law_text K [.int (m : Nat), .ref p] H Q E := ⟨m, p, us, rs, rfl, hp, hR, ho, hm, hl, k⟩
def sp_f_law_take (K : PySem.W.Frag) : Sp := fun vs H Q E => ∃ (b : Addr) (w : Int), vs = [.ref b, .int w] ∧ BoxAt H b ∧ Wd w ∧ ∀ d H', 0 ≤ d → d < w → Kp b H H' → BoxAt H' b → Q (.int d) H'
theorem call_take {K : PySem.W.Frag} {H : Hp} {Q : VK} {E : XK} {b : Addr} {w : Int} (hb : BoxAt H b) (hw : Wd w) (k : ∀ d H', 0 ≤ d → d < w → Kp b H H' → BoxAt H' b → Q (.int d) H') : sp_f_law_take K [.ref b, .int w] H Q E := ⟨b, w, rfl, hb, hw, k⟩
local macro_rules | `(tactic| tm_at "rwd") => `(tactic| first | assumption | (apply wd_of <;> omega) | exact ⟨by decide, by decide +kernel⟩ | ((refine' wd_two ?wa ?wb); (case wa => with_reducible assumption); (case wb => omega)) | solve_by_elim | fail "no")
local macro_rules | `(tactic| tm_at "rs") => `(tactic| ((with_reducible refine call_take ?h ?w (fun _ _ _ _ _ _ => ?_)); (case h => tm_at "rbx"); (case w => tm_at "rwd")))
def sp_f_law_piece (K : PySem.W.Frag) : Sp := fun vs H Q E => ∃ (b : Addr) (m t : Nat), vs = [.ref b, .int (m : Int), .int (t : Int)] ∧ BoxAt H b ∧ 1 ≤ m ∧ m ≤ 5 ∧ t ≤ 100 ∧ ∀ (p : Addr) (vs : List V) (rs : List Rw) (H' : Hp), H p = none → H' p = some (.lst vs) → RwsAt H' vs rs → 1 ≤ rs.length → rs.length ≤ 6 → RwsOk m (t + rs.length + 1) rs → Kp b H H' → BoxAt H' b → Q (.ref p) H'
theorem call_piece {K : PySem.W.Frag} {H : Hp} {Q : VK} {E : XK} {b : Addr} {m t : Nat} (hB : BoxAt H b) (m1 : 1 ≤ m) (m5 : m ≤ 5) (t1 : t ≤ 100) (k : ∀ (p : Addr) (vs : List V) (rs : List Rw) (H' : Hp), H p = none → H' p = some (.lst vs) → RwsAt H' vs rs → 1 ≤ rs.length → rs.length ≤ 6 → RwsOk m (t + rs.length + 1) rs → Kp b H H' → BoxAt H' b → Q (.ref p) H') : sp_f_law_piece K [.ref b, .int (m : Int), .int (t : Int)] H Q E := ⟨b, m, t, rfl, hB, m1, m5, t1, k⟩
def sp_f_law_ending_rows (K : PySem.W.Frag) : Sp := fun vs H Q E => ∃ (b : Addr) (m : Nat), vs = [.ref b, .int (m : Int)] ∧ BoxAt H b ∧ 1 ≤ m ∧ m ≤ 5 ∧ ∀ (p : Addr) (vs : List V) (rs : List Rw) (H' : Hp), H p = none → H' p = some (.lst vs) → RwsAt H' vs rs → Prg m rs → Kp b H H' → BoxAt H' b → Q (.ref p) H'
theorem call_endingRows {K : PySem.W.Frag} {H : Hp} {Q : VK} {E : XK} {b : Addr} {m : Nat} (hB : BoxAt H b) (m1 : 1 ≤ m) (m5 : m ≤ 5) (k : ∀ (p : Addr) (vs : List V) (rs : List Rw) (H' : Hp), H p = none → H' p = some (.lst vs) → RwsAt H' vs rs → Prg m rs → Kp b H H' → BoxAt H' b → Q (.ref p) H') : sp_f_law_ending_rows K [.ref b, .int (m : Int)] H Q E := ⟨b, m, rfl, hB, m1, m5, k⟩
def sp_f_law_row (K : PySem.W.Frag) : Sp := fun vs H Q E => ∃ (b : Addr) (m n : Nat), vs = [.ref b, .int (m : Int), .int (n : Int)] ∧ BoxAt H b ∧ 1 ≤ m ∧ m ≤ 5 ∧ 1 ≤ n ∧ n ≤ 14 ∧ ∀ (p : Addr) (r : Rw) (H' : Hp), H p = none → H' p = some (.tup r.vs) → r.ok m n → Kp b H H' → BoxAt H' b → Q (.ref p) H'
theorem call_row {K : PySem.W.Frag} {H : Hp} {Q : VK} {E : XK} {b : Addr} {m n : Nat} (hB : BoxAt H b) (m1 : 1 ≤ m) (m5 : m ≤ 5) (n1 : 1 ≤ n) (n14 : n ≤ 14) (k : ∀ (p : Addr) (r : Rw) (H' : Hp), H p = none → H' p = some (.tup r.vs) → r.ok m n → Kp b H H' → BoxAt H' b → Q (.ref p) H') : sp_f_law_row K [.ref b, .int (m : Int), .int (n : Int)] H Q E := ⟨b, m, n, rfl, hB, m1, m5, n1, n14, k⟩
def sp_f_law_any_rows (K : PySem.W.Frag) : Sp := fun vs H Q E => ∃ (b : Addr) (m : Nat), vs = [.ref b, .int (m : Int)] ∧ BoxAt H b ∧ 1 ≤ m ∧ m ≤ 5 ∧ ∀ (p : Addr) (vs : List V) (rs : List Rw) (H' : Hp), H p = none → H' p = some (.lst vs) → RwsAt H' vs rs → Prg m rs → Kp b H H' → BoxAt H' b → Q (.ref p) H'
theorem call_anyRows {K : PySem.W.Frag} {H : Hp} {Q : VK} {E : XK} {b : Addr} {m : Nat} (hB : BoxAt H b) (m1 : 1 ≤ m) (m5 : m ≤ 5) (k : ∀ (p : Addr) (vs : List V) (rs : List Rw) (H' : Hp), H p = none → H' p = some (.lst vs) → RwsAt H' vs rs → Prg m rs → Kp b H H' → BoxAt H' b → Q (.ref p) H') : sp_f_law_any_rows K [.ref b, .int (m : Int)] H Q E := ⟨b, m, rfl, hB, m1, m5, k⟩
def sp_f_law_some_program (K : PySem.W.Frag) : Sp := fun vs H Q E => ∃ (b : Addr), vs = [.ref b] ∧ BoxAt H b ∧ ∀ (q p : Addr) (m : Nat) (vs : List V) (rs : List Rw) (H' : Hp), H p = none → H' q = some (.tup [.int (m : Nat), .ref p]) → H' p = some (.lst vs) → RwsAt H' vs rs → Prg m rs → Kp b H H' → BoxAt H' b → Q (.ref q) H'
theorem call_someProgram {K : PySem.W.Frag} {H : Hp} {Q : VK} {E : XK} {b : Addr} (hB : BoxAt H b) (k : ∀ (q p : Addr) (m : Nat) (vs : List V) (rs : List Rw) (H' : Hp), H p = none → H' q = some (.tup [.int (m : Nat), .ref p]) → H' p = some (.lst vs) → RwsAt H' vs rs → Prg m rs → Kp b H H' → BoxAt H' b → Q (.ref q) H') : sp_f_law_some_program K [.ref b] H Q E := ⟨b, rfl, hB, k⟩
local macro_rules | `(tactic| tm_at "rs") => `(tactic| ((with_reducible refine call_someProgram ?h (fun _ _ _ _ _ _ _ _ _ _ _ _ _ => ?_)); (case h => tm_at "rbx")))
def sp_f_number_in (K : PySem.W.Frag) : Sp := fun vs H Q E => ∃ (z : Str) (n : Nat), vs = [.str z, .int 2] ∧ DgF z n ∧ Q (.int (n : Int)) H
theorem call_numberIn {K : PySem.W.Frag} {H : Hp} {Q : VK} {E : XK} {z : Str} {n : Nat} (hz : DgF z n) (k : Q (.int (n : Int)) H) : sp_f_number_in K [.str z, .int 2] H Q E := ⟨z, n, rfl, hz, k⟩
def sp_f_boxes_in (K : PySem.W.Frag) : Sp := fun vs H Q E => ∃ (n : Nat), vs = [.str (Str.ofString "boxes " ++ toString (n : Int))] ∧ n < 100 ∧ ∀ H', Sm H H' → Q (.int (n : Int)) H'
theorem call_boxesIn {K : PySem.W.Frag} {H : Hp} {Q : VK} {E : XK} {n : Nat} (hn : n < 100) (k : ∀ H', Sm H H' → Q (.int (n : Int)) H') : sp_f_boxes_in K [.str (Str.ofString "boxes " ++ toString (n : Int))] H Q E := ⟨n, rfl, hn, k⟩
def sp_f_row_in (K : PySem.W.Frag) : Sp := fun vs H Q E => ∃ (r : Rw) (m n : Nat), vs = [.str (rwT r)] ∧ r.ok m n ∧ m ≤ 99 ∧ n ≤ 99 ∧ ∀ t H', H t = none → Sm H H' → H' t = some (.tup r.vs) → Q (.ref t) H'
theorem call_rowIn {K : PySem.W.Frag} {H : Hp} {Q : VK} {E : XK} {r : Rw} {m n : Nat} (hr : r.ok m n) (hm : m ≤ 99) (hn : n ≤ 99) (k : ∀ t H', H t = none → Sm H H' → H' t = some (.tup r.vs) → Q (.ref t) H') : sp_f_row_in K [.str (rwT r)] H Q E := ⟨r, m, n, rfl, hr, hm, hn, k⟩
def sp_f_read_program (K : PySem.W.Frag) : Sp := fun vs H Q E => ∃ (m : Nat) (rs : List Rw), vs = [.str (pgT m rs)] ∧ Prg m rs ∧ ∀ v H', Sm H H' → PrgAt K H' v m rs → Q v H'
theorem call_readProgram {K : PySem.W.Frag} {H : Hp} {Q : VK} {E : XK} {m : Nat} {rs : List Rw} (hg : Prg m rs) (k : ∀ v H', Sm H H' → PrgAt K H' v m rs → Q v H') : sp_f_read_program K [.str (pgT m rs)] H Q E := ⟨m, rs, rfl, hg, k⟩
def sp_f_law_box (K : PySem.W.Frag) : Sp := fun vs H Q E => ∃ (a : Addr) (ns : List Int) (i : Int), vs = [.ref a, .int i] ∧ SqL K H a (ns.map V.int) ∧ 0 ≤ i ∧ i ≤ 100000 ∧ ∀ b H', H b = none → Sm H H' → BoxAt H' b → Q (.ref b) H'
theorem call_box {K : PySem.W.Frag} {H : Hp} {Q : VK} {E : XK} {a : Addr} {ns : List Int} {i : Int} (hS : SqL K H a (ns.map V.int)) (h0 : 0 ≤ i) (h1 : i ≤ 100000) (k : ∀ b H', H b = none → Sm H H' → BoxAt H' b → Q (.ref b) H') : sp_f_law_box K [.ref a, .int i] H Q E := ⟨a, ns, i, rfl, hS, h0, h1, k⟩
local macro_rules | `(tactic| tm_at "rs") => `(tactic| ((with_reducible refine' call_box ?h ?i ?j (fun _ _ _ _ _ => ?k)); (case h => tm_at "rsq"); (case i => omega); (case j => omega)))
def sp_f_lines_of (K : PySem.W.Frag) : Sp := fun vs H Q E => ∃ (v : V) (m : Nat) (rs : List Rw), vs = [v] ∧ PrgAt K H v m rs ∧ m ≤ 1000 ∧ RwsOk m rs.length rs ∧ rs.length ≤ 1000 ∧ ∀ q H', H q = none → Sm H H' → H' q = some (.lst ((lnsT m rs).map V.str)) → Q (.ref q) H'
theorem call_linesOf {K : PySem.W.Frag} {H : Hp} {Q : VK} {E : XK} {v : V} {m : Nat} {rs : List Rw} (hv : PrgAt K H v m rs) (hm : m ≤ 1000) (ho : RwsOk m rs.length rs) (hl : rs.length ≤ 1000) (k : ∀ q H', H q = none → Sm H H' → H' q = some (.lst ((lnsT m rs).map V.str)) → Q (.ref q) H') : sp_f_lines_of K [v] H Q E := ⟨v, m, rs, rfl, hv, hm, ho, hl, k⟩
def sp_f_show_program (K : PySem.W.Frag) : Sp := fun vs H Q E => ∃ (v : V) (m : Nat) (rs : List Rw), vs = [v] ∧ PrgAt K H v m rs ∧ m ≤ 1000 ∧ RwsOk m rs.length rs ∧ rs.length ≤ 1000 ∧ ∀ H', Sm H H' → Q (.str (pgT m rs)) H'
theorem call_showProgram {K : PySem.W.Frag} {H : Hp} {Q : VK} {E : XK} {v : V} {m : Nat} {rs : List Rw} (hv : PrgAt K H v m rs) (hm : m ≤ 1000) (ho : RwsOk m rs.length rs) (hl : rs.length ≤ 1000) (k : ∀ H', Sm H H' → Q (.str (pgT m rs)) H') : sp_f_show_program K [v] H Q E := ⟨v, m, rs, rfl, hv, hm, ho, hl, k⟩
def sp_f_law_whole (K : PySem.W.Frag) : Sp := fun vs H Q E => ∃ (p : Addr) (us : List V) (rs : List Rw), vs = [.ref p] ∧ H p = some (.tup us) ∧ RwsAt H us rs ∧ rs.length ≤ 1000 ∧ ∀ H', Sm H H' → Q (.bl true) H'
theorem call_lawWhole {K : PySem.W.Frag} {H : Hp} {Q : VK} {E : XK} {p : Addr} {us : List V} {rs : List Rw} (hp : H p = some (.tup us)) (hR : RwsAt H us rs) (hl : rs.length ≤ 1000) (k : ∀ H', Sm H H' → Q (.bl true) H') : sp_f_law_whole K [.ref p] H Q E := ⟨p, us, rs, rfl, hp, hR, hl, k⟩
def sp_f_Program__eq (K : PySem.W.Frag) : Sp := fun vs H Q E => ∃ (a b : Addr) (m n : Nat) (rs qs : List Rw), vs = [.ref a, .ref b] ∧ PrgAt K H (.ref a) m rs ∧ PrgAt K H (.ref b) n qs ∧ ∀ H', Sm H H' → Q (.bl (decide (m = n ∧ rs = qs))) H'
theorem call_progEq {K : PySem.W.Frag} {H : Hp} {Q : VK} {E : XK} {a b : Addr} {m n : Nat} {rs qs : List Rw} (ha : PrgAt K H (.ref a) m rs) (hb : PrgAt K H (.ref b) n qs) (k : ∀ H', Sm H H' → Q (.bl (decide (m = n ∧ rs = qs))) H') : sp_f_Program__eq K [.ref a, .ref b] H Q E := ⟨a, b, m, n, rs, qs, rfl, ha, hb, k⟩
theorem ne_prog {K : PySem.W.Frag} {H : Hp} {Q : VK} {E : XK} {C a b : Addr} {m n : Nat} {rs qs : List Rw} (hC : PrC K C) (ha : PrgAt K H (.ref a) m rs) (hb : PrgAt K H (.ref b) n qs) (k : ∀ H', Sm H H' → Q (.bl (!decide (m = n ∧ rs = qs))) H') : rNeO C (sp_f_Program__eq K) E (.ref a) (.ref b) H Q := by
  obtain ⟨p1, C1, dx1, t1, us1, e1, c1, g1, _⟩ := id ha
  obtain ⟨p2, C2, dx2, t2, us2, e2, c2, g2, _⟩ := id hb
  cases e1
  cases e2
  obtain rfl := prc_eq c1 hC
  obtain rfl := prc_eq c2 hC
  exact w_neO g1 g2 (call_progEq ha hb fun H' s => ⟨_, rfl, k H' s⟩)
theorem eq_prog {K : PySem.W.Frag} {H : Hp} {Q : VK} {E : XK} {C a b : Addr} {m n : Nat} {rs qs : List Rw} (hC : PrC K C) (ha : PrgAt K H (.ref a) m rs) (hb : PrgAt K H (.ref b) n qs) (k : ∀ H', Sm H H' → Q (.bl (decide (m = n ∧ rs = qs))) H') : rEqO C (sp_f_Program__eq K) E (.ref a) (.ref b) H Q := by
  obtain ⟨p1, C1, dx1, t1, us1, e1, c1, g1, _⟩ := id ha
  obtain ⟨p2, C2, dx2, t2, us2, e2, c2, g2, _⟩ := id hb
  cases e1
  cases e2
  obtain rfl := prc_eq c1 hC
  obtain rfl := prc_eq c2 hC
  exact w_eqO g1 g2 (call_progEq ha hb k)
def sp_f_Program__str (K : PySem.W.Frag) : Sp := fun vs H Q E => ∃ (v : V) (m : Nat) (rs : List Rw), vs = [v] ∧ PrgAt K H v m rs ∧ m ≤ 1000 ∧ RwsOk m rs.length rs ∧ rs.length ≤ 1000 ∧ ∀ H', Sm H H' → Q (.str (pgT m rs)) H'
theorem str_prog {K : PySem.W.Frag} {H : Hp} {Q : VK} {E : XK} {C : Addr} {v : V} {m : Nat} {rs : List Rw} (hv : PrgAt K H v m rs) (hC : PrC K C) (hm : m ≤ 1000) (ho : RwsOk m rs.length rs) (l : rs.length ≤ 1000) (k : ∀ H', Sm H H' → Q (.str (pgT m rs)) H') : rUnO C (sp_f_Program__str K) E IsStr [v] H Q := by
  obtain ⟨p, D, dx, t, vs, rfl, c, q, _⟩ := id hv
  obtain rfl := ClsN.uniq c hC
  exact w_unO q ⟨_, m, rs, rfl, hv, hm, ho, l, fun H' s => ⟨⟨_, rfl⟩, k H' s⟩⟩
def sp_f_law (K : PySem.W.Frag) : Sp := fun vs H Q E => ∃ (a : Addr) (ns : List Int), vs = [.ref a] ∧ SqF K H a (ns.map V.int) ∧ ns.length ≤ 63 ∧ ∀ H', Q (.bl true) H'
section
variable {P : Program} {w : World} {K : PySem.W.Frag} {mg : Str → Option Value} {base : Heap}
/-! ### is_whole -/
theorem ok_f_is_whole {f : Addr} {fd : FuncData} (F : Fun K "is_whole" "is_whole" s_f_is_whole f fd)
    (m_isinstance : mg "isinstance" = none)
    (m_int : mg "int" = none)
    (m_bool : mg "bool" = none) :
    FnG P w K mg base CX0 1 f fd ["thing"] (sp_f_is_whole K) := by
  refine okG F sc_f_is_whole (fun vs H Q E h => ?_) (fun cdv A outer s H vs Q E hr h => ⟨_, (pss_one (ps_ret (pe_and (pe_callB (call_gIsi (K := K) rfl) (by rfl) m_isinstance PyProof.Rows.boot_isinstance (pa_cons (pv 0) (pa_cons (pe_bltn (v := .ty "int") (by rfl) m_int PyProof.Rows.boot_int rfl) pa_nil))) (pe_one (pe_not (pe_callB (call_gIsi (K := K) rfl) (by rfl) m_isinstance PyProof.Rows.boot_isinstance (pa_cons (pv 0) (pa_cons (pe_bltn (v := .ty "bool") (by rfl) m_bool PyProof.Rows.boot_bool rfl) pa_nil)))))))), ?_⟩)
  · obtain ⟨_, rfl, _⟩ := h
    rfl
  · obtain ⟨i, rfl, k⟩ := h
    try dsimp only [cxOf, Cx.nox, Cx.wish]
    change (_ : L2.TS) _ [some (.int i)] _
    refine w_start ?_
    repeat' (tm_at "rs")
    exact k _ (Same.refl _)
/-! ### is_formed -/
theorem ok_f_is_formed {f : Addr} {fd : FuncData} (F : Fun K "is_formed" "is_formed" s_f_is_formed f fd) {a_SHAPES : Addr}
    (D_f_is_whole : Def P w K mg base CX0 "is_whole" 1 ["thing"] (sp_f_is_whole K))
    (m_all : mg "all" = none)
    (m_len : mg "len" = none)
    (c_SHAPES : mg "SHAPES" = some (.ref a_SHAPES))
    (d_SHAPES : KDt K w a_SHAPES [(Str.ofString "raise", [Str.ofString "box"]), (Str.ofString "lower", [Str.ofString "box"]), (Str.ofString "if", [Str.ofString "box", Str.ofString "goal"]), (Str.ofString "go", [Str.ofString "goal"]), (Str.ofString "stop", [])]) :
    FnG P w K mg base CX0 2 f fd ["row"] (sp_f_is_formed K) := by
  refine okG F sc_f_is_formed (fun vs H Q E h => ?_) (fun cdv A outer s H vs Q E hr h => ⟨_, (pss_cons (ps_if (PW.pt (pw_or (pt_cmpR (op_gEq (K := K) rfl hr.units) (pe_callB (call_gLen (K := K) rfl) (by rfl) m_len PySem.boot_len (pa_cons (pv 0) pa_nil)) pe_int (nomark _)) (pw_or (pt_cmp (pc_niK (pe_ix (ix_g (K := K) rfl) (pv 0) pe_int (fun _ _ => rfl)) (pe_glob (v := .ref a_SHAPES) rfl c_SHAPES rfl))) (pw_or1 (pt_cmpR (op_gNe (K := K) rfl hr.units) (pe_callB (call_gLen (K := K) rfl) (by rfl) m_len PySem.boot_len (pa_cons (pv 0) pa_nil)) (pe_op (op_gAdd (K := K) rfl) pe_int (pe_callB (call_gLen (K := K) rfl) (by rfl) m_len PySem.boot_len (pa_cons (pe_kget (pe_glob (v := .ref a_SHAPES) rfl c_SHAPES rfl) (pe_ix (ix_g (K := K) rfl) (pv 0) pe_int (fun _ _ => rfl)) (fun _ _ => rfl)) pa_nil))) (nomark _)))))) (pss_one (ps_ret pe_bl)) pss_nil)
    (pss_one (ps_ret (pe_callB (cr_all rfl) (by rfl) m_all (by decide +kernel) (pa_cons (pe_lc (own := _) rfl sc_f_is_formed.nd (pi_gt (K := K) rfl (pe_slice (sl_gl (K := K) rfl) (pv 0) (po_some pe_int) po_none)) (blkOk_by (own := [("thing", 1)]) (N := ["row", "thing"]) (sc := defScope s_f_is_formed) (by decide +kernel)) (fun _ _ _ _ _ => (pg_name (i := 1) sc_f_is_formed.nd rfl (by first | exact Or.inl rfl | exact Or.inr rfl))) (fun _ _ _ _ _ => pts_nil) (fun _ _ _ _ _ => (pe_f D_f_is_whole (hr.mono (by omega)) (by rfl) pass0 (pa_cons (pv 1) pa_nil)))) pa_nil))))), ?_⟩)
  · obtain ⟨_, _, rfl, _⟩ := h
    rfl
  · obtain ⟨p, r, rfl, hp, k⟩ := h
    try dsimp only [cxOf, Cx.nox, Cx.wish]
    change (_ : L2.TS) _ [some (.ref p), none] _
    refine w_start ?_
    have hl : r.vs.length = 1 + (r.vs.drop 1).length := by cases r <;> rfl
    have hl2 : (r.vs.length : Int) ≠ 0 := by omega
    have hl3 : (r.vs.length : Int) = 1 + ((r.kinds.map V.str).length : Nat) := by cases r <;> rfl
    obtain ⟨zs, hz⟩ := r.vs_word
    have h0 : r.vs[0]? = some (.str r.word) := by rw [hz]; rfl
    repeat' (tm_at "rs")
    · rename_i e
      exact absurd e hl2
    refine w_ixT (st_of hp) (atI_nat (j := 0) h0) ?_
    repeat' (tm_at "rs")
    refine w_nieT d_SHAPES (Rw.shp r) ?_
    repeat' (tm_at "rs")
    refine w_ixT (st_of hp) (atI_nat (j := 0) h0) ?_
    repeat' (tm_at "rs")
    refine w_kge d_SHAPES (Rw.shp r) (fun t ht => ?_)
    repeat' (tm_at "rs")
    · rename_i e
      exact absurd hl3 e
    rename_i e1 e2 q H1 s1 g1
    rw [cut_lo (by decide)] at g1
    have hti := r.tail_int
    have hxl : (r.vs.drop (1 : Int).toNat).length ≤ 10 := by cases r <;> exact Nat.le_of_ble_eq_true rfl
    refine lcTp (xs := r.vs.drop (1 : Int).toNat) (fun D i H' => H' D = some (.lst ((List.replicate i true).map V.bl)) ∧ Sm H1 H') ?_ ?_ ?_ ?_
    · exact fun D H' nD sm hD => ⟨hD, sm⟩
    · exact fun D i H' nD hi h => st_of (h.2 _ _ g1)
    · rintro D i x H' nD hx ⟨hD, hs⟩
      obtain ⟨n, rfl⟩ := hti x (List.mem_of_getElem? hx)
      have hi := (List.getElem?_eq_some_iff.mp hx).1
      have hil : ((List.replicate i true).map V.bl).length ≤ 100 := by rw [List.length_map, List.length_replicate]; omega
      repeat' (tm_at "rs")
      rename_i H2 s2 H3 k3 g3
      exact ⟨by rw [List.replicate_succ', List.map_append]; exact g3, by tm_at "rsm"⟩
    · rintro D H' nD ⟨hD, hs⟩
      repeat' (tm_at "rs")
      rw [show (List.replicate (r.vs.drop (1 : Int).toNat).length true).all id = true by simp]
      exact k _ (by tm_at "rsm")
/-! ### check_row -/
theorem ok_f_check_row {f : Addr} {fd : FuncData} (F : Fun K "check_row" "check_row" s_f_check_row f fd) {a_SHAPES : Addr}
    (D_f_is_formed : Def P w K mg base CX0 "is_formed" 2 ["row"] (sp_f_is_formed K))
    (m_zip : mg "zip" = none)
    (m_int : mg "int" = none)
    (c_SHAPES : mg "SHAPES" = some (.ref a_SHAPES))
    (d_SHAPES : KDt K w a_SHAPES [(Str.ofString "raise", [Str.ofString "box"]), (Str.ofString "lower", [Str.ofString "box"]), (Str.ofString "if", [Str.ofString "box", Str.ofString "goal"]), (Str.ofString "go", [Str.ofString "goal"]), (Str.ofString "stop", [])]) :
    FnG P w K mg base CX0 3 f fd ["row", "boxes", "many", "at"] (sp_f_check_row K) := by
  refine okG F sc_f_check_row (fun vs H Q E h => ?_) (fun cdv A outer s H vs Q E hr h => ⟨_, (pss_cons (ps_if (pt_not (pt_val (pe_f D_f_is_formed (hr.mono (by omega)) (by rfl) pass0 (pa_cons (pv 0) pa_nil)))) (pss_one ps_never) pss_nil)
    (pss_one (ps_for PassesOwn.never rfl (pi_zipS (by rfl) m_zip (pa_cons (pe_kget (pe_glob (v := .ref a_SHAPES) rfl c_SHAPES rfl) (pe_ix (ix_g (K := K) rfl) (pv 0) pe_int (fun _ _ => rfl)) (fun _ _ => rfl)) (pa_cons (pe_slice (sl_gl (K := K) rfl) (pv 0) (po_some pe_int) po_none) pa_nil)) (pk_cons pe_bl pk_nil)) (pg_gt (K := K) (n := 2) rfl rfl (pgs_cons (pg_name (i := 4) sc_f_check_row.nd rfl (by first | exact Or.inl rfl | exact Or.inr rfl)) (pgs_cons (pg_name (i := 5) sc_f_check_row.nd rfl (by first | exact Or.inl rfl | exact Or.inr rfl)) pgs_nil))) (pss_one (ps_if (pt_not (pt_chain op_gLe op_gLt pe_int (pv 5) (pe_ix (ix_g (K := K) rfl) (pe_lst (pa_cons (pv 1) (pa_cons (pv 2) pa_nil))) (pe_callTy call_gInt (by rfl) m_int PyProof.Rows.boot_int (pa_cons (pe_cmpR (op_gEq (K := K) rfl hr.units) (pv 4) pe_str (nomark _)) pa_nil)) (fun _ _ => rfl)))) (pss_one ps_never) pss_nil))))), ?_⟩)
  · obtain ⟨_, _, _, _, _, rfl, _⟩ := h
    rfl
  · obtain ⟨p, r, m, n, t, rfl, hp, ho, k⟩ := h
    try dsimp only [cxOf, Cx.nox, Cx.wish]
    change (_ : L2.TS) _ [some (.ref p), some (.int (m : Nat)), some (.int (n : Nat)), some (.int (t : Nat)), none, none] _
    refine w_start ?_
    obtain ⟨zs, hz⟩ := r.vs_word
    have h0 : r.vs[0]? = some (.str r.word) := by rw [hz]; rfl
    repeat' (tm_at "rs")
    refine call_isFormed hp (fun H1 s1 => ?_)
    have hp1 := s1 _ _ hp
    repeat' (tm_at "rs")
    refine w_ixT (st_of hp1) (atI_nat (j := 0) h0) ?_
    repeat' (tm_at "rs")
    refine w_kgA d_SHAPES (Rw.shp r) (fun t2 ht => ?_)
    repeat' (tm_at "rs")
    rename_i q H2 s2 g2
    rw [cut_lo (by decide)] at g2
    refine w_iZSe (ht _) (st_of g2) ?_
    have el : (r.kinds.map V.str).length = (r.vs.drop (1 : Int).toNat).length := by cases r <;> rfl
    refine loopZS el (fun i σ' H' => ∃ (x4 x5 : Option V), σ' = [some (.ref p), some (.int (m : Nat)), some (.int (n : Nat)), some (.int (t : Nat)), x4, x5] ∧ Sm H2 H') ⟨_, _, rfl, Same.refl _⟩ ?_ ?_ ?_
    · rintro i σ' H' hi ⟨x4, x5, rfl, hs⟩
      exact ⟨ht _, st_of (hs _ _ g2)⟩
    · rintro i x y T σ' Ha Hb hi hx hy ⟨x4, x5, rfl, hs⟩ nT sT gT
      obtain ⟨ks, nn, rfl, rfl, hok⟩ : ∃ (ks : Str) (nn : Nat), x = .str ks ∧ y = .int (nn : Nat) ∧ ((ks = "goal" ∧ nn < n) ∨ (ks ≠ "goal" ∧ nn < m)) := by
        cases r
        all_goals
          rcases i with _ | _ | i
        all_goals first
          | (exfalso; cases hx; done)
          | (cases hx; cases hy; first | exact ⟨_, _, rfl, rfl, .inr ⟨by decide, ho⟩⟩ | exact ⟨_, _, rfl, rfl, .inl ⟨rfl, ho⟩⟩ | exact ⟨_, _, rfl, rfl, .inr ⟨by decide, ho.1⟩⟩ | exact ⟨_, _, rfl, rfl, .inl ⟨rfl, ho.2⟩⟩)
      repeat' (tm_at "rs")
      all_goals first
        | exact ⟨_, _, rfl, by tm_at "rsm"⟩
        | (exfalso; rcases hok with ⟨h3, h4⟩ | ⟨h3, h4⟩ <;> first | omega | (apply h3; assumption) | (rename_i h1 h2; exact h1 h3))
        | (exfalso; omega)
    · rintro σ' H' ⟨x4, x5, rfl, hs⟩
      repeat' (tm_at "rs")
      exact k _ (by tm_at "rsm")
/-! ### check -/
theorem ok_f_check {f : Addr} {fd : FuncData} (F : Fun K "check" "check" s_f_check f fd) {t_MOST_BOXES : Tok} {t_MOST_ROWS : Tok}
    (D_f_check_row : Def P w K mg base CX0 "check_row" 3 ["row", "boxes", "many", "at"] (sp_f_check_row K))
    (m_enumerate : mg "enumerate" = none)
    (m_len : mg "len" = none)
    (c_MOST_BOXES : mg "MOST_BOXES" = some (.int 5 t_MOST_BOXES))
    (c_MOST_ROWS : mg "MOST_ROWS" = some (.int 14 t_MOST_ROWS)) :
    FnG P w K mg base CX0 4 f fd ["boxes", "rows"] (sp_f_check K) := by
  refine okG F sc_f_check (fun vs H Q E h => ?_) (fun cdv A outer s H vs Q E hr h => ⟨_, (pss_cons (ps_if (pt_not (pt_chain op_gLe op_gLe pe_int (pv 0) (pe_glob (v := .int 5) rfl c_MOST_BOXES ⟨_, rfl⟩))) (pss_one ps_never) pss_nil)
    (pss_cons (ps_if (pt_not (pt_chain op_gLe op_gLe pe_int (pe_callB (call_gLen (K := K) rfl) (by rfl) m_len PySem.boot_len (pa_cons (pv 1) pa_nil)) (pe_glob (v := .int 14) rfl c_MOST_ROWS ⟨_, rfl⟩))) (pss_one ps_never) pss_nil)
    (pss_cons (ps_for PassesOwn.never rfl (pi_or (pi_enum (by rfl) m_enumerate (pa_cons (pv 1) pa_nil)) (pi_enT (by rfl) m_enumerate (pa_cons (pv 1) pa_nil))) (pg_gt (K := K) (n := 2) rfl rfl (pgs_cons (pg_name (i := 2) sc_f_check.nd rfl (by first | exact Or.inl rfl | exact Or.inr rfl)) (pgs_cons (pg_name (i := 3) sc_f_check.nd rfl (by first | exact Or.inl rfl | exact Or.inr rfl)) pgs_nil))) (pss_one (ps_expr (pe_f D_f_check_row (hr.mono (by omega)) (by rfl) pass0 (pa_cons (pv 3) (pa_cons (pv 0) (pa_cons (pe_callB (call_gLen (K := K) rfl) (by rfl) m_len PySem.boot_len (pa_cons (pv 1) pa_nil)) (pa_cons (pv 2) pa_nil))))))))
    (pss_one (ps_if (pt_cmpR (op_gNotInSeq (K := K) rfl) (pe_ix (ix_g (K := K) rfl) (pe_ix (ix_g (K := K) rfl) (pv 1) (pe_un un_neg pe_int) (fun _ _ => rfl)) pe_int (fun _ _ => rfl)) (pe_tup (pa_cons pe_str (pa_cons pe_str pa_nil))) (by rfl)) (pss_one ps_never) pss_nil))))), ?_⟩)
  · obtain ⟨_, _, _, _, rfl, _⟩ := h
    rfl
  · obtain ⟨m, a, us, rs, rfl, ha, hr, hp, k⟩ := h
    try dsimp only [cxOf, Cx.nox, Cx.wish]
    change (_ : L2.TS) _ [some (.int (m : Nat)), some (.ref a), none, none] _
    refine w_start ?_
    have hl := paired_len hr
    obtain ⟨b1, b5, ok, len, us0, r0, hfin, hend⟩ := id hp
    have hpos := hp.pos
    rcases ha with ha | ha
    · repeat' (tm_at "rs")
      · omega
      · omega
      · refine .inl ?_
        repeat' (tm_at "rs")
        refine loopEn (xs := us) (fun i σ' H' => ∃ (x2 x3 : Option V), σ' = [some (.int (m : Nat)), some (.ref a), x2, x3] ∧ Sm H H') ⟨_, _, rfl, Same.refl _⟩ ?_ ?_ ?_
        · rintro i σ' H' hi ⟨x2, x3, rfl, hs⟩
          exact sq_of (hs _ _ ha)
        · rintro i x T σ' H1 H2 hi hx ⟨x2, x3, rfl, hs⟩ nT sT gT
          obtain ⟨r, hr1, p, rfl, hpr⟩ := paired_get hr hx
          have hpr2 := sT _ _ (hs _ _ hpr)
          repeat' (tm_at "rs")
          refine call_checkRow hpr2 (by rw [hl]; exact ok r (List.mem_of_getElem? hr1)) (fun H3 s3 => ?_)
          repeat' (tm_at "rs")
          exact ⟨_, _, rfl, by tm_at "rsm"⟩
        · rintro σ' H1 ⟨x2, x3, rfl, hs⟩
          have hr1 := hr.tk (Tk.sm hs)
          rw [hfin] at hr1
          obtain ⟨us1, x, e, hr2, p, rfl, hpr⟩ := paired_last hr1
          have ha1 := hs _ _ ha
          rw [e] at ha1
          obtain ⟨zs, hz⟩ := r0.vs_word
          repeat' (tm_at "rs")
          refine w_ixL' (sq_of ha1) (atI_last _ _) ?_
          repeat' (tm_at "rs")
          refine w_ixT (st_of hpr) (atI_nat (j := 0) (by rw [hz]; rfl)) ?_
          repeat' (tm_at "rs")
          · rename_i hh
            exfalso
            apply hh
            cases r0 <;> first | exact hend.elim | exact .inl rfl | exact .inr rfl
          · exact k _ (by tm_at "rsm")
      · omega
      · omega
    · repeat' (tm_at "rs")
      · omega
      · omega
      · refine .inr ?_
        repeat' (tm_at "rs")
        refine loopEt (xs := us) (fun i σ' H' => ∃ (x2 x3 : Option V), σ' = [some (.int (m : Nat)), some (.ref a), x2, x3] ∧ Sm H H') ⟨_, _, rfl, Same.refl _⟩ ?_ ?_ ?_
        · rintro i σ' H' hi ⟨x2, x3, rfl, hs⟩
          exact st_of (hs _ _ ha)
        · rintro i x T σ' H1 H2 hi hx ⟨x2, x3, rfl, hs⟩ nT sT gT
          obtain ⟨r, hr1, p, rfl, hpr⟩ := paired_get hr hx
          have hpr2 := sT _ _ (hs _ _ hpr)
          repeat' (tm_at "rs")
          refine call_checkRow hpr2 (by rw [hl]; exact ok r (List.mem_of_getElem? hr1)) (fun H3 s3 => ?_)
          repeat' (tm_at "rs")
          exact ⟨_, _, rfl, by tm_at "rsm"⟩
        · rintro σ' H1 ⟨x2, x3, rfl, hs⟩
          have hr1 := hr.tk (Tk.sm hs)
          rw [hfin] at hr1
          obtain ⟨us1, x, e, hr2, p, rfl, hpr⟩ := paired_last hr1
          have ha1 := hs _ _ ha
          rw [e] at ha1
          obtain ⟨zs, hz⟩ := r0.vs_word
          repeat' (tm_at "rs")
          refine w_ixT (st_of ha1) (atI_last _ _) ?_
          repeat' (tm_at "rs")
          refine w_ixT (st_of hpr) (atI_nat (j := 0) (by rw [hz]; rfl)) ?_
          repeat' (tm_at "rs")
          · rename_i hh
            exfalso
            apply hh
            cases r0 <;> first | exact hend.elim | exact .inl rfl | exact .inr rfl
          · exact k _ (by tm_at "rsm")
      · omega
      · omega
/-! ### Program.__init__ -/
theorem ok_f_Program__init {f : Addr} {fd : FuncData} (F : Fun K "__init__" "Program.__init__" s_f_Program__init f fd)
    (D_f_check : Def P w K mg base CX0 "check" 4 ["boxes", "rows"] (sp_f_check K))
    (m_tuple : mg "tuple" = none) :
    FnG P w K mg base CX0 5 f fd ["self", "boxes", "rows"] (sp_f_Program__init K) := by
  refine okG F sc_f_Program__init (fun vs H Q E h => ?_) (fun cdv A outer s H vs Q E hr h => ⟨_, (pss_cons (ps_expr (pe_f D_f_check (hr.mono (by omega)) (by rfl) pass0 (pa_cons (pv 1) (pa_cons (pv 2) pa_nil))))
    (pss_cons (ps_fld (pv 0) (pv 1) rfl)
    (pss_one (ps_fld (pv 0) (pe_callTy (call_gTuple (K := K) rfl) (by rfl) m_tuple PyProof.Rows.boot_tuple (pa_cons (pv 2) pa_nil)) rfl)))), ?_⟩)
  · obtain ⟨_, _, _, _, _, _, _, rfl, _⟩ := h
    rfl
  · obtain ⟨p, C, dx, m, a, us, rs, rfl, hp, hC, ha, hr, hg, k⟩ := h
    try dsimp only [cxOf, Cx.nox, Cx.wish]
    change (_ : L2.TS) _ [some (.ref p), some (.int (m : Nat)), some (.ref a)] _
    refine w_start ?_
    rcases ha with ha | ha
    · repeat' (tm_at "rs")
      refine call_check ha hr hg (fun H1 s1 => ?_)
      have hp1 := s1 _ _ hp
      have ha1 := s1 _ _ ha
      repeat' (tm_at "rs")
      refine w_sfldE hp1 hC.cl (hC.na _ (by simp)) (by show 0 < 1000; decide) (fun H2 k2 g2 => ?_)
      have ha2 : H2 a = some (.lst us) := k2 _ _ (ne_of ha1 hp1 (by intro z; cases z)) ha1
      repeat' (tm_at "rs")
      rename_i t H3 nt st gt
      refine w_sfldE (st _ _ g2) hC.cl (hC.na _ (by simp)) (by show 1 < 1000; decide) (fun H4 k4 g4 => ?_)
      repeat' (tm_at "rs")
      refine k _ t (Kp.trans (Kp.of s1) (Kp.trans k2 (Kp.trans (Kp.of st) k4))) g4 (k4 _ _ ?_ gt)
      exact ne_of gt (st _ _ g2) (by intro z; cases z)
    · repeat' (tm_at "rs")
      refine call_checkT ha hr hg (fun H1 s1 => ?_)
      have hp1 := s1 _ _ hp
      have ha1 := s1 _ _ ha
      repeat' (tm_at "rs")
      refine w_sfldE hp1 hC.cl (hC.na _ (by simp)) (by show 0 < 1000; decide) (fun H2 k2 g2 => ?_)
      have ha2 : H2 a = some (.tup us) := k2 _ _ (ne_of ha1 hp1 (by intro z; cases z)) ha1
      repeat' (tm_at "rs")
      refine ⟨a, us, rfl, .inr ⟨st_of ha2, ?_⟩⟩
      repeat' (tm_at "rs")
      refine w_sfldE g2 hC.cl (hC.na _ (by simp)) (by show 1 < 1000; decide) (fun H4 k4 g4 => ?_)
      repeat' (tm_at "rs")
      refine k _ a (Kp.trans (Kp.of s1) (Kp.trans k2 k4)) g4 (k4 _ _ ?_ ha2)
      exact ne_of ha2 g2 (by intro z; cases z)
/-! ### _law_text -/
theorem ok_f_law_text {f : Addr} {fd : FuncData} (F : Fun K "_law_text" "_law_text" s_f_law_text f fd)
    (m_str : mg "str" = none) :
    FnG P w K mg base CX0 1 f fd ["boxes", "rows"] (sp_f_law_text K) := by
  refine okG F sc_f_law_text (fun vs H Q E h => ?_) (fun cdv A outer s H vs Q E hr h => ⟨_, (pss_cons (ps_set (i := 2) sc_f_law_text.nd rfl (by first | exact Or.inl rfl | exact Or.inr rfl) (pe_op (op_gAdd (K := K) rfl) pe_str (pe_callTy call_gStr2 (by rfl) m_str PyProof.Rows.boot_str (pa_cons (pv 0) pa_nil))))
    (pss_cons (ps_for PassesOwn.never rfl (pi_gl (K := K) rfl (pv 1)) (pg_name (i := 3) sc_f_law_text.nd rfl (by first | exact Or.inl rfl | exact Or.inr rfl)) (pss_cons (ps_set (i := 2) sc_f_law_text.nd rfl (by first | exact Or.inl rfl | exact Or.inr rfl) (pe_op (op_gAdd (K := K) rfl) (pe_op (op_gAdd (K := K) rfl) (pv 2) pe_str) (pe_ix (ix_g (K := K) rfl) (pv 3) pe_int (fun _ _ => rfl))))
    (pss_one (ps_for PassesOwn.never rfl (pi_gt (K := K) rfl (pe_slice (sl_gl (K := K) rfl) (pv 3) (po_some pe_int) po_none)) (pg_name (i := 4) sc_f_law_text.nd rfl (by first | exact Or.inl rfl | exact Or.inr rfl)) (pss_one (ps_set (i := 2) sc_f_law_text.nd rfl (by first | exact Or.inl rfl | exact Or.inr rfl) (pe_op (op_gAdd (K := K) rfl) (pe_op (op_gAdd (K := K) rfl) (pv 2) pe_str) (pe_callTy call_gStr2 (by rfl) m_str PyProof.Rows.boot_str (pa_cons (pv 4) pa_nil)))))))))
    (pss_one (ps_ret (pv 2))))), ?_⟩)
  · obtain ⟨_, _, _, _, rfl, _⟩ := h
    rfl
  · obtain ⟨m, p, us, rs, rfl, hp, hR, ho, hm, hl, k⟩ := h
    try dsimp only [cxOf, Cx.nox, Cx.wish]
    change (_ : L2.TS) _ [some (.int (m : Nat)), some (.ref p), none, none, none] _
    refine w_start ?_
    repeat' (tm_at "rs")
    have hml := tos_le (i := (m : Int)) (by omega)
    have hxl : us.length = rs.length := paired_len hR
    have e6 : (Str.ofString "boxes ").length = 6 := rfl
    have e1 : (Str.ofString "\n").length = 1 := rfl
    have e2 : (Str.ofString " ").length = 1 := rfl
    refine loopL (xs := us) (fun i σ' H' => ∃ (x3 x4 : Option V), σ' = [some (.int (m : Nat)), some (.ref p), some (.str (pgT m (rs.take i))), x3, x4] ∧ Sm H H') ⟨_, _, rfl, Same.refl _⟩ ?_ ?_ ?_
    · rintro i σ' H' hi ⟨x3, x4, rfl, hs⟩
      exact sq_of (hs _ _ hp)
    · rintro i x σ' H' hx ⟨x3, x4, rfl, hs⟩
      obtain ⟨r, hr, q, rfl, hq⟩ := paired_get hR hx
      have hq2 := hs _ _ hq
      have hro := ho r (List.mem_of_getElem? hr)
      have hil := (List.getElem?_eq_some_iff.mp hr).1
      have hpl : (pgT m (rs.take i)).length ≤ 20000 := by
        have h1 := join_le (sep := Str.ofString "\n") (B := 100) (lnsT m (rs.take i)) (fun y hy => by
          refine lnsT_le (m := m) (rs := rs) (by omega) (by omega) ho y ?_
          rcases List.mem_cons.mp hy with rfl | hy
          · exact List.mem_cons_self
          · obtain ⟨r', hr', rfl⟩ := List.mem_map.mp hy
            exact List.mem_cons_of_mem _ (List.mem_map.mpr ⟨r', List.mem_of_mem_take hr', rfl⟩))
        rw [lnsT_len, List.length_take, e1] at h1
        show (Txt.join _ _).length ≤ _
        omega
      have htk : pgT m (rs.take (i + 1)) = pgT m (rs.take i) ++ Str.ofString "\n" ++ rwT r := by
        have e : lnsT m (rs.take (i + 1)) = (Str.ofString "boxes " ++ toString (m : Int)) :: ((rs.take i).map rwT ++ [rwT r]) := by
          unfold lnsT
          rw [List.take_succ, hr, List.map_append]
          rfl
        unfold pgT
        rw [e, join_snoc]
        rfl
      rw [htk]
      generalize pgT m (rs.take i) = T at *
      obtain ⟨zs, hz⟩ := r.vs_word
      have h0 : atI r.vs 0 = some (.str r.word) := by rw [hz]; exact atI_nat (j := 0) rfl
      have hsh := rw_sh_le (by omega) (by omega) hro
      have hwl : r.word.length ≤ 25 := hsh _ (List.mem_map.mpr ⟨_, by rw [hz]; exact List.mem_cons_self, rfl⟩)
      have hrl := rw_vs_len r
      repeat' (tm_at "rs")
      rename_i t Ht st gt
      rw [cut_lo (by decide), show r.vs.drop (1 : Int).toNat = zs by rw [hz]; rfl] at gt
      have hzl : zs.length ≤ 2 := by
        rw [hz, List.length_cons] at hrl
        omega
      have htl : (T ++ Str.ofString "\n").length ≤ 20001 := by rw [app_len]; omega
      generalize hT : T ++ Str.ofString "\n" = T0 at *
      have hvs := rw_vs_ok (by omega) (by omega) hro
      have hjl : ∀ j, (Txt.join (Str.ofString " ") (r.word :: (zs.take j).map shV)).length ≤ 1000 := fun j => by
        have h1 := join_le (sep := Str.ofString " ") (B := 25) (r.word :: (zs.take j).map shV) (fun y hy => by
          rcases List.mem_cons.mp hy with rfl | hy
          · exact hwl
          · obtain ⟨x, hx, rfl⟩ := List.mem_map.mp hy
            exact hsh _ (List.mem_map.mpr ⟨x, by rw [hz]; exact List.mem_cons_of_mem _ (List.mem_of_mem_take hx), rfl⟩))
        rw [List.length_cons, List.length_map, List.length_take, e2] at h1
        omega
      refine loopT (xs := zs) (fun j σ2 H2 => ∃ (x4 : Option V), σ2 = [some (.int (m : Nat)), some (.ref p), some (.str (T0 ++ Txt.join (Str.ofString " ") (r.word :: (zs.take j).map shV))), some (.ref q), x4] ∧ Sm Ht H2) ⟨_, rfl, Same.refl _⟩ ?_ ?_ ?_
      · rintro j σ2 H2 hj ⟨x4, rfl, h2⟩
        exact st_of (h2 _ _ gt)
      · rintro j y σ2 H2 hy ⟨x4, rfl, h2⟩
        have hyo := hvs y (by rw [hz]; exact List.mem_cons_of_mem _ (List.mem_of_getElem? hy))
        have hyl : (shV y).length ≤ 25 := hsh _ (List.mem_map.mpr ⟨y, by rw [hz]; exact List.mem_cons_of_mem _ (List.mem_of_getElem? hy), rfl⟩)
        have hj1 := hjl j
        have hsn : T0 ++ Txt.join (Str.ofString " ") (r.word :: (zs.take (j + 1)).map shV) = T0 ++ Txt.join (Str.ofString " ") (r.word :: (zs.take j).map shV) ++ Str.ofString " " ++ shV y := by
          rw [List.take_succ, hy, List.map_append]
          show T0 ++ Txt.join _ (r.word :: (_ ++ [shV y])) = _
          rw [join_snoc, app_as, app_as, app_as]
        rw [hsn]
        generalize Txt.join (Str.ofString " ") (r.word :: (zs.take j).map shV) = J at *
        have hJ : (T0 ++ J).length ≤ 30000 := by rw [app_len]; omega
        generalize hQ : T0 ++ J = Q0 at *
        repeat' (tm_at "rs")
        refine w_str2 (by rcases hyo with ⟨a, e, _⟩ | h; exact .inl ⟨a, e⟩; exact .inr h) ?_
        repeat' (tm_at "rs")
        first
        | exact ⟨_, rfl, h2⟩
        | (refine w_addS (sz_of (by have := app_len Q0 (Str.ofString " "); omega)) ?_; repeat' (tm_at "rs"); exact ⟨_, rfl, h2⟩)
      · rintro σ2 H2 ⟨x4, rfl, h2⟩
        rw [List.take_length]
        have e : Txt.join (Str.ofString " ") (r.word :: zs.map shV) = rwT r := by
          unfold rwT
          rw [hz]
          rfl
        rw [e]
        repeat' (tm_at "rs")
        exact ⟨_, _, rfl, hs.trans (st.trans h2)⟩
    · rintro σ' H' ⟨x3, x4, rfl, hs⟩
      rw [hxl, List.take_length]
      repeat' (tm_at "rs")
      exact k _ hs
/-! ### _law_take -/
theorem ok_f_law_take {f : Addr} {fd : FuncData} (F : Fun K "_law_take" "_law_take" s_f_law_take f fd) :
    FnG P w K mg base CX0 1 f fd ["box", "wide"] (sp_f_law_take K) := by
  refine okG F sc_f_law_take (fun vs H Q E h => ?_) (fun cdv A outer s H vs Q E hr h => ⟨_, (pss_cons (ps_if (pt_cmpR op_gGt (pe_ix (ix_g (K := K) rfl) (pv 0) pe_int (fun _ _ => rfl)) pe_int (nomark _)) (pss_cons (ps_set (i := 2) sc_f_law_take.nd rfl (by first | exact Or.inl rfl | exact Or.inr rfl) (pe_op op_gMod (pe_ix (ix_g (K := K) rfl) (pv 0) pe_int (fun _ _ => rfl)) (pv 1)))
    (pss_cons (ps_asg (pe_op op_gDiv (pe_ix (ix_g (K := K) rfl) (pv 0) pe_int (fun _ _ => rfl)) (pv 1)) (pg_sub (pv 0) pe_int set_list))
    (pss_one (ps_ret (pv 2))))) pss_nil)
    (pss_cons (ps_set (i := 3) sc_f_law_take.nd rfl (by first | exact Or.inl rfl | exact Or.inr rfl) (pe_op op_gMod (pe_op op_gMul (pe_ix (ix_g (K := K) rfl) (pv 0) pe_int (fun _ _ => rfl)) pe_int) pe_int))
    (pss_cons (ps_asg (pe_op (op_gAdd (K := K) rfl) (pe_op op_gMod (pe_op (op_gAdd (K := K) rfl) (pe_op op_gMul (pv 3) pe_int) pe_int) pe_int) pe_int) (pg_sub (pv 0) pe_int set_list))
    (pss_one (ps_ret (pe_op op_gMod (pe_op op_gDiv (pe_op (op_gAdd (K := K) rfl) (pe_op op_gMul (pv 3) pe_int) (pe_ix (ix_g (K := K) rfl) (pv 0) pe_int (fun _ _ => rfl))) pe_int) (pv 1))))))), ?_⟩)
  · obtain ⟨_, _, rfl, _⟩ := h
    rfl
  · obtain ⟨b, w, rfl, hB, hw, k⟩ := h
    try dsimp only [cxOf, Cx.nox, Cx.wish]
    change (_ : L2.TS) _ [some (.ref b), some (.int w), none, none] _
    refine w_start ?_
    obtain ⟨x, s, hb, hx, hs, hs2⟩ := hB
    obtain ⟨hw0, hw1⟩ := hw
    repeat' (tm_at "rs")
    · refine k _ _ (by omega) (by omega) (by assumption) ⟨_, _, by assumption, ?_, hs, hs2⟩
      exact Int.ediv_nonneg hx (by omega)
    · refine k _ _ (by omega) (by omega) (by assumption) ⟨_, _, by assumption, hx, ?_, ?_⟩
      · omega
      · omega
/-! ### _law_piece -/
theorem ok_f_law_piece {f : Addr} {fd : FuncData} (F : Fun K "_law_piece" "_law_piece" s_f_law_piece f fd)
    (D_f_law_take : Def P w K mg base CX0 "_law_take" 1 ["box", "wide"] (sp_f_law_take K))
    (m_range : mg "range" = none)
    (m_len : mg "len" = none)
    (m_int : mg "int" = none) :
    FnG P w K mg base CX0 2 f fd ["box", "boxes", "at"] (sp_f_law_piece K) := by
  refine okG F sc_f_law_piece (fun vs H Q E h => ?_) (fun cdv A outer s H vs Q E hr h => ⟨_, (pss_cons (ps_set (i := 3) sc_f_law_piece.nd rfl (by first | exact Or.inl rfl | exact Or.inr rfl) (pe_f D_f_law_take (hr.mono (by omega)) (by rfl) pass0 (pa_cons (pv 0) (pa_cons pe_int pa_nil))))
    (pss_cons (ps_set (i := 4) sc_f_law_piece.nd rfl (by first | exact Or.inl rfl | exact Or.inr rfl) (pe_f D_f_law_take (hr.mono (by omega)) (by rfl) pass0 (pa_cons (pv 0) (pa_cons (pv 1) pa_nil))))
    (pss_cons (ps_if (pt_cmpR (op_gEq (K := K) rfl hr.units) (pv 3) pe_int (nomark _)) (pss_one (ps_ret (pe_op op_gMul (pe_lst (pa_cons (pe_tup (pa_cons pe_str (pa_cons (pv 4) pa_nil))) pa_nil)) (pe_op (op_gAdd (K := K) rfl) pe_int (pe_f D_f_law_take (hr.mono (by omega)) (by rfl) pass0 (pa_cons (pv 0) (pa_cons pe_int pa_nil))))))) pss_nil)
    (pss_cons (ps_if (pt_cmpR (op_gEq (K := K) rfl hr.units) (pv 3) pe_int (nomark _)) (pss_one (ps_ret (pe_lst (pa_cons (pe_ix (ix_g (K := K) rfl) (pe_lst (pa_cons (pe_tup (pa_cons pe_str (pa_cons (pe_op (op_gAdd (K := K) rfl) (pv 2) pe_int) pa_nil))) (pa_cons (pe_tup (pa_cons pe_str (pa_cons (pv 4) (pa_cons (pe_op (op_gAdd (K := K) rfl) (pv 2) pe_int) pa_nil)))) pa_nil))) (pe_f D_f_law_take (hr.mono (by omega)) (by rfl) pass0 (pa_cons (pv 0) (pa_cons pe_int pa_nil))) (fun _ _ => rfl)) pa_nil)))) pss_nil)
    (pss_cons (ps_asg (pe_lc (own := _) rfl sc_f_law_piece.nd (pi_range1 (by rfl) m_range (pa_cons (pv 1) pa_nil)) (blkOk_by (own := [("k", 6)]) (N := ["box", "boxes", "at", "form", "j", "some", "k", "body"]) (sc := defScope s_f_law_piece) (by decide +kernel)) (fun _ _ _ _ _ => (pg_name (i := 6) sc_f_law_piece.nd rfl (by first | exact Or.inl rfl | exact Or.inr rfl))) (fun _ _ _ _ _ => pts_one (pt_cmpR (op_gNe (K := K) rfl hr.units) (pv 6) (pv 4) (nomark _))) (fun _ _ _ _ _ => (pv 6))) (pg_name (i := 5) sc_f_law_piece.nd rfl (by first | exact Or.inl rfl | exact Or.inr rfl)))
    (pss_cons (ps_setLc (i := 7) rfl sc_f_law_piece.nd rfl rfl (sw_true rfl rfl rfl (by decide +kernel)) (pi_range1 (by rfl) m_range (pa_cons (pe_op op_gMul (pe_f D_f_law_take (hr.mono (by omega)) (by rfl) pass0 (pa_cons (pv 0) (pa_cons pe_int pa_nil))) (pe_callTy call_gInt (by rfl) m_int PyProof.Rows.boot_int (pa_cons (pe_cmpR op_gGt (pe_callB (call_gLen (K := K) rfl) (by rfl) m_len PySem.boot_len (pa_cons (pv 5) pa_nil)) pe_int (nomark _)) pa_nil))) pa_nil)) (blkOk_by (own := [("k", 6)]) (N := ["box", "boxes", "at", "form", "j", "some", "k", "body"]) (sc := defScope s_f_law_piece) (by decide +kernel)) (fun _ _ _ _ _ => (pg_name (i := 6) sc_f_law_piece.nd rfl (by first | exact Or.inl rfl | exact Or.inr rfl))) (fun _ _ _ _ _ => pts_nil) (fun _ _ _ _ _ => (pe_tup (pa_cons pe_str (pa_cons (pe_ix (ix_g (K := K) rfl) (pv 5) (pe_f D_f_law_take (hr.mono (by omega)) (by rfl) pass0 (pa_cons (pv 0) (pa_cons (pe_callB (call_gLen (K := K) rfl) (by rfl) m_len PySem.boot_len (pa_cons (pv 5) pa_nil)) pa_nil))) (fun _ _ => rfl)) pa_nil)))))
    (pss_one (ps_ret (pe_op (op_gAdd (K := K) rfl) (pe_op (op_gAdd (K := K) rfl) (pe_lst (pa_cons (pe_tup (pa_cons pe_str (pa_cons (pv 4) (pa_cons (pe_op (op_gAdd (K := K) rfl) (pe_op (op_gAdd (K := K) rfl) (pv 2) pe_int) (pe_callB (call_gLen (K := K) rfl) (by rfl) m_len PySem.boot_len (pa_cons (pv 7) pa_nil))) pa_nil)))) (pa_cons (pe_tup (pa_cons pe_str (pa_cons (pv 4) pa_nil))) pa_nil))) (pv 7)) (pe_lst (pa_cons (pe_tup (pa_cons pe_str (pa_cons (pv 2) pa_nil))) pa_nil))))))))))), ?_⟩)
  · obtain ⟨_, _, _, rfl, _⟩ := h
    rfl
  · obtain ⟨b, m, t, rfl, hB, m1, m5, t1, k⟩ := h
    try dsimp only [cxOf, Cx.nox, Cx.wish]
    change (_ : L2.TS) _ [some (.ref b), some (.int (m : Int)), some (.int (t : Int)), none, none, none, none, none] _
    refine w_start ?_
    repeat' (tm_at "rs")
    · rename_i f Ha f0 f1 ka ba j Hb j0 j1 kb bb c1 s1 Hc n1 t1' g1 l1 Hd n2 t2 g2 z He z0 z1 kc bc
      obtain ⟨j, rfl⟩ := Int.eq_ofNat_of_zero_le j0
      refine w_rep1V (by tm_at "rlk") (by omega) (by omega) (fun p H' np sp gp => ?_)
      repeat' (tm_at "rs")
      have a1 : Tk Hc H' := by tm_at "rtk"
      have e1 : (List.replicate (1 + z).toNat (Rw.up j)).length = (1 + z).toNat := List.length_replicate
      exact k p _ (List.replicate (1 + z).toNat (.up j)) H' (by tm_at "rfr") gp (paired_rep (rw_one (a1 _ _ g1)) _) (by omega) (by omega) (fun r hr => by rw [(List.mem_replicate.mp hr).2]; show j < m; omega) (by tm_at "rkp") (by tm_at "rbx")
    · rename_i f Ha f0 f1 ka ba j Hb j0 j1 kb bb c1 c2 s1 Hc n1 t1' g1 s2 Hd n2 t2 g2 l1 He n3 t3 g3 z Hf z0 z1 kc bc
      obtain ⟨j, rfl⟩ := Int.eq_ofNat_of_zero_le j0
      have a2 : Tk Hd Hf := by tm_at "rtk"
      have a1 : Tk Hc Hf := by tm_at "rtk"
      refine w_ixP (fun x => ∃ r, RwAt Hf x r ∧ r.ok m (t + 1 + 1)) (.inl (by tm_at "rsq")) z0 (by show z < 2; omega) (all2 ⟨.go (t + 1), rw_one (a1 _ _ g1), (show t + 1 < t + 1 + 1 by omega)⟩ ⟨.br j (t + 1), rw_one (a2 _ _ g2), (show j < m ∧ t + 1 < t + 1 + 1 by omega)⟩) (fun x hx => ?_)
      obtain ⟨r, hxr, ro⟩ := hx
      repeat' (tm_at "rs")
      rename_i p H' np sp gp
      exact k p _ [r] H' (by tm_at "rfr") gp (.cons (hxr.tk (Tk.sm sp)) .nil) (Nat.le_refl _) (by show 1 ≤ 6; decide) (RwsOk.one ro) (by tm_at "rkp") (by tm_at "rbx")
    · rename_i f Ha f0 f1 ka ba j Hb j0 j1 kb bb c1 c2
      obtain ⟨j, rfl⟩ := Int.eq_ofNat_of_zero_le j0
      have hm : ((m : Int)).toNat = m := Int.toNat_natCast m
      rw [hm]
      refine lcR (fun D i H' => ∃ xs : List Nat, H' D = some (.lst (nV xs)) ∧ xs.length ≤ i ∧ (∀ x ∈ xs, x < m) ∧ Sm Hb H') ?_ ?_ ?_
      · intro D H' nD sm hD
        exact ⟨[], hD, Nat.le_refl _, (fun x hx => by cases hx), sm⟩
      · rintro D i H' nD hi ⟨xs, hD, hl, hx, hs⟩
        have hxl := nV_len xs
        repeat' (tm_at "rs")
        · rename_i c3 H'' k3 g3
          refine ⟨xs ++ [i], by rw [nV_snoc]; rw [Int.zero_add] at g3; exact g3, by rw [List.length_append]; show xs.length + 1 ≤ _; omega, fun x hx2 => ?_, by tm_at "rsm"⟩
          rcases List.mem_append.mp hx2 with h | h
          · exact hx x h
          · rw [List.mem_singleton.mp h]
            exact hi
        · exact ⟨xs, hD, by omega, hx, hs⟩
      · rintro D Hc nD ⟨xs, hD, hl, hx, hs⟩
        have hxl := nV_len xs
        repeat' (tm_at "rs")
    
        all_goals
          rename_i z He z0 z1 ke be hh
          refine lcR (fun B i H' => ∃ us rs, H' B = some (.lst us) ∧ RwsAt H' us rs ∧ rs.length = i ∧ (∀ r ∈ rs, ∃ j, r = .up j ∧ j < m) ∧ Kp b He H' ∧ BoxAt H' b) ?_ ?_ ?_
          · intro B H' nB sm hB2
            exact ⟨[], [], hB2, .nil, rfl, (fun r hr => by cases hr), by tm_at "rkp", by tm_at "rbx"⟩
          · rintro B i H' nB hi ⟨us, rs, hB2, hr, hrl, ho, hk, hb⟩
            have hrl2 := paired_len hr
            have hDb : D ≠ b := ne_newB nD (by assumption)
            have hi2 : i < 3 := by omega
            have hx0 : 0 < xs.length := by
              rcases Nat.eq_zero_or_pos xs.length with h | h
              · exfalso
                rw [hxl, h] at hh
                omega
              · exact h
            repeat' (tm_at "rs")
            rename_i u Hf u0 u1 kf bf
            have hD4 : Hf D = some (.lst (nV xs)) := by tm_at "rlk"
            refine w_ixN (.inl (sq_of hD4)) u0 (by omega) (fun x hxx => ?_)
            repeat' (tm_at "rs")
            rename_i q Hg nq sq gq Hh kh gh
            have a2 : Tk Hg Hh := by tm_at "rtk"
            have a1 : Tk H' Hh := by clear a2; tm_at "rtk"
            refine ⟨_, rs ++ [.up x], gh, paired_app (hr.tk a1) (.cons (rw_one (r := .up x) (a2 _ _ gq)) .nil), by rw [List.length_append, hrl]; rfl, fun r hr2 => ?_, by tm_at "rkp", by tm_at "rbx"⟩
            rcases List.mem_append.mp hr2 with h | h
            · exact ho r h
            · exact ⟨x, List.mem_singleton.mp h, hx x hxx⟩
          · rintro B Hd nB ⟨us, rs, hB2, hr, hrl, ho, hk, hb⟩
            have hrl2 := paired_len hr
            have hrs3 : rs.length ≤ 3 := by omega
            repeat' (tm_at "rs")
            rename_i s1 H1 n1 t1' g1 s2 H2 n2 t2 g2 l1 H3 n3 t3 g3 l2 H4 n4 t4 g4 s3 H5 n5 t5 g5 l3 H6 n6 t6 g6 l4 H7 n7 t7 g7
            have a3 : Tk H5 H7 := by tm_at "rtk"
            have a2 : Tk H2 H7 := by clear a3; tm_at "rtk"
            have a1 : Tk H1 H7 := by clear a2 a3; tm_at "rtk"
            have a0 : Tk Hd H7 := by clear a1 a2 a3; tm_at "rtk"
            have g1' : H1 s1 = some (.tup (Rw.br j (t + 3 + rs.length)).vs) := by rw [g1, hrl2]; rfl
            have el : ([Rw.br j (t + 3 + rs.length), Rw.dn j] ++ rs ++ [Rw.go t]).length = rs.length + 3 := by
              rw [List.length_append, List.length_append]
              show 2 + rs.length + 1 = _
              omega
            exact k _ _ ([Rw.br j (t + 3 + rs.length), Rw.dn j] ++ rs ++ [Rw.go t]) _ (by tm_at "rfr") g7 (paired_app (paired_app (.cons (rw_one (a1 _ _ g1')) (.cons (rw_one (r := .dn j) (a2 _ _ g2)) .nil)) (hr.tk a0)) (.cons (rw_one (r := .go t) (a3 _ _ g5)) .nil)) (by omega) (by omega) (by
              rw [el]
              refine RwsOk.app (RwsOk.app (RwsOk.cons (r := Rw.br j (t + 3 + rs.length)) (show j < m ∧ t + 3 + rs.length < t + (rs.length + 3) + 1 by omega) (RwsOk.one (r := Rw.dn j) (show j < m by omega))) (fun r hr2 => ?_)) (RwsOk.one (r := Rw.go t) (show t < t + (rs.length + 3) + 1 by omega))
              obtain ⟨x, rfl, hx⟩ := ho r hr2
              exact hx) (by tm_at "rkp") (by tm_at "rbx")
/-! ### _law_ending_rows -/
theorem ok_f_law_ending_rows {f : Addr} {fd : FuncData} (F : Fun K "_law_ending_rows" "_law_ending_rows" s_f_law_ending_rows f fd)
    (D_f_law_piece : Def P w K mg base CX0 "_law_piece" 2 ["box", "boxes", "at"] (sp_f_law_piece K))
    (D_f_law_take : Def P w K mg base CX0 "_law_take" 1 ["box", "wide"] (sp_f_law_take K))
    (m_range : mg "range" = none)
    (m_len : mg "len" = none) :
    FnG P w K mg base CX0 3 f fd ["box", "boxes"] (sp_f_law_ending_rows K) := by
  refine okG F sc_f_law_ending_rows (fun vs H Q E h => ?_) (fun cdv A outer s H vs Q E hr h => ⟨_, (pss_cons (ps_set (i := 2) sc_f_law_ending_rows.nd rfl (by first | exact Or.inl rfl | exact Or.inr rfl) (pe_lst pa_nil))
    (pss_cons (ps_for PassesOwn.never rfl (pi_range1 (by rfl) m_range (pa_cons (pe_op (op_gAdd (K := K) rfl) pe_int (pe_f D_f_law_take (hr.mono (by omega)) (by rfl) pass0 (pa_cons (pv 0) (pa_cons pe_int pa_nil)))) pa_nil)) (pg_name (i := 3) sc_f_law_ending_rows.nd rfl (by first | exact Or.inl rfl | exact Or.inr rfl)) (pss_cons (ps_set (i := 4) sc_f_law_ending_rows.nd rfl (by first | exact Or.inl rfl | exact Or.inr rfl) (pe_f D_f_law_piece (hr.mono (by omega)) (by rfl) pass0 (pa_cons (pv 0) (pa_cons (pv 1) (pa_cons (pe_callB (call_gLen (K := K) rfl) (by rfl) m_len PySem.boot_len (pa_cons (pv 2) pa_nil)) pa_nil)))))
    (pss_one (ps_if (pt_cmpR op_gLt (pe_op (op_gAdd (K := K) rfl) (pe_callB (call_gLen (K := K) rfl) (by rfl) m_len PySem.boot_len (pa_cons (pv 2) pa_nil)) (pe_callB (call_gLen (K := K) rfl) (by rfl) m_len PySem.boot_len (pa_cons (pv 4) pa_nil))) pe_int (nomark _)) (pss_one (ps_set (i := 2) sc_f_law_ending_rows.nd rfl (by first | exact Or.inl rfl | exact Or.inr rfl) (pe_op (op_gAdd (K := K) rfl) (pv 2) (pv 4)))) pss_nil))))
    (pss_cons (ps_if (PW.pt (pw_and (pt_cmpR (op_gEq (K := K) rfl hr.units) (pe_f D_f_law_take (hr.mono (by omega)) (by rfl) pass0 (pa_cons (pv 0) (pa_cons pe_int pa_nil))) pe_int (nomark _)) (pw_and1 (pt_cmpR op_gLt (pe_callB (call_gLen (K := K) rfl) (by rfl) m_len PySem.boot_len (pa_cons (pv 2) pa_nil)) pe_int (nomark _))))) (pss_one (ps_set (i := 2) sc_f_law_ending_rows.nd rfl (by first | exact Or.inl rfl | exact Or.inr rfl) (pe_op (op_gAdd (K := K) rfl) (pv 2) (pe_lst (pa_cons (pe_tup (pa_cons pe_str (pa_cons (pe_f D_f_law_take (hr.mono (by omega)) (by rfl) pass0 (pa_cons (pv 0) (pa_cons (pv 1) pa_nil))) (pa_cons (pe_op (op_gAdd (K := K) rfl) (pe_callB (call_gLen (K := K) rfl) (by rfl) m_len PySem.boot_len (pa_cons (pv 2) pa_nil)) pe_int) pa_nil)))) (pa_cons (pe_tup (pa_cons pe_str pa_nil)) pa_nil)))))) pss_nil)
    (pss_one (ps_ret (pe_op (op_gAdd (K := K) rfl) (pv 2) (pe_lst (pa_cons (pe_tup (pa_cons pe_str pa_nil)) pa_nil)))))))), ?_⟩)
  · obtain ⟨_, _, rfl, _⟩ := h
    rfl
  · obtain ⟨b, m, rfl, hB, m1, m5, k⟩ := h
    try dsimp only [cxOf, Cx.nox, Cx.wish]
    change (_ : L2.TS) _ [some (.ref b), some (.int (m : Int)), none, none, none] _
    refine w_start ?_
    repeat' (tm_at "rs")
    rename_i l0 H1 nl sl gl w H2 w0 w1 k2 b2
    refine loopR (fun i σ' H' => ∃ (x3 x4 : Option V) (p : Addr) (vs : List V) (rs : List Rw), σ' = [some (.ref b), some (.int (m : Int)), some (.ref p), x3, x4] ∧ H p = none ∧ H' p = some (.lst vs) ∧ RwsAt H' vs rs ∧ rs.length ≤ 12 ∧ RwsOk m (rs.length + 1) rs ∧ Kp b H H' ∧ BoxAt H' b) ?_ ?_ ?_
    · exact ⟨_, _, l0, [], [], rfl, nl, by tm_at "rlk", .nil, by decide, RwsOk.nil, by tm_at "rkp", by tm_at "rbx"⟩
    · rintro i σ' H' hi ⟨x3, x4, p, vs, rs, rfl, np, hp, hr, hl, ho, hk, hb⟩
      have hvl := paired_len hr
      repeat' (tm_at "rs")
      rw [hvl]
      refine call_piece hb m1 m5 (by omega) (fun q us qs H3 nq gq hq q1 q6 oq k3 b3 => ?_)
      have hul := paired_len hq
      have hp3 : H3 p = some (.lst vs) := k3 _ _ (ne_newB np hB) hp
      repeat' (tm_at "rs")
      · rename_i c r H4 nr sr gr
        have t1 : Tk H' H4 := by tm_at "rtk"
        refine ⟨_, _, r, _, rs ++ qs, rfl, by tm_at "rfr", gr, paired_app (hr.tk t1) (hq.tk (Tk.sm sr)), by rw [List.length_append]; omega, ?_, by tm_at "rkp", by tm_at "rbx"⟩
        rw [List.length_append]
        exact (ho.up (by omega)).app (oq.up (by omega))
      · have t1 : Tk H' H3 := by tm_at "rtk"
        exact ⟨_, _, p, vs, rs, rfl, np, hp3, hr.tk t1, hl, ho, by tm_at "rkp", by tm_at "rbx"⟩
    · rintro σ' H' ⟨x3, x4, p, vs, rs, rfl, np, hp, hr, hl, ho, hk, hb⟩
      have hvl := paired_len hr
      repeat' (tm_at "rs")
      · rename_i z Ha z0 z1 ka ba c1 c2 j Hb j0 j1 kb bb s1 Hc n1 t1 g1 s2 Hd n2 t2 g2 l1 He n3 t3 g3 l2 Hf n4 t4 g4 s3 Hg n5 t5 g5 l3 Hi n6 t6 g6 l4 Hj n7 t7 g7
        obtain ⟨j, rfl⟩ := Int.eq_ofNat_of_zero_le j0
        have a3 : Tk Hg Hj := by tm_at "rtk"
        have a2 : Tk Hd Hg := by tm_at "rtk"
        have a1 : Tk Hc Hd := by tm_at "rtk"
        have a0 : Tk H' Hc := by tm_at "rtk"
        have b2 := Tk.trans a2 a3
        have b1 := Tk.trans a1 b2
        have b0 := Tk.trans a0 b1
        have g1' : Hc s1 = some (.tup (Rw.br j (rs.length + 2)).vs) := by rw [g1, hvl]; rfl
        exact k _ _ (rs ++ [Rw.br j (rs.length + 2), Rw.st] ++ [Rw.st]) _ (by tm_at "rfr") g7 (paired_app (paired_app (hr.tk b0) (.cons (rw_one (b1 _ _ g1')) (.cons (rw_one (r := .st) (b2 _ _ g2)) .nil))) (.cons (rw_one (r := .st) (a3 _ _ g5)) .nil)) ⟨m1, m5, by
          have el : (rs ++ [Rw.br j (rs.length + 2), Rw.st] ++ [Rw.st]).length = rs.length + 3 := by rw [List.length_append, List.length_append]; rfl
          rw [el]
          exact ((ho.up (by omega)).app (RwsOk.cons (r := Rw.br j (rs.length + 2)) (show j < m ∧ rs.length + 2 < rs.length + 3 by omega) (RwsOk.one (r := Rw.st) trivial))).app (RwsOk.one (r := Rw.st) trivial), by
          rw [List.length_append, List.length_append]
          show rs.length + 2 + 1 ≤ 14
          omega, _, .st, rfl, trivial⟩ (by tm_at "rkp") (by tm_at "rbx")
      all_goals
        rename_i s3 Hg n5 t5 g5 l3 Hi n6 t6 g6 l4 Hj n7 t7 g7
        have a3 : Tk Hg Hj := by tm_at "rtk"
        have a0 : Tk H' Hg := by tm_at "rtk"
        exact k _ _ (rs ++ [Rw.st]) _ (by tm_at "rfr") g7 (paired_app (hr.tk (Tk.trans a0 a3)) (.cons (rw_one (r := .st) (a3 _ _ g5)) .nil)) ⟨m1, m5, by
          rw [List.length_append]
          exact ho.app (RwsOk.one (r := Rw.st) trivial), by
          rw [List.length_append]
          show rs.length + 1 ≤ 14
          omega, _, .st, rfl, trivial⟩ (by tm_at "rkp") (by tm_at "rbx")
/-! ### _law_row -/
theorem ok_f_law_row {f : Addr} {fd : FuncData} (F : Fun K "_law_row" "_law_row" s_f_law_row f fd)
    (D_f_law_take : Def P w K mg base CX0 "_law_take" 1 ["box", "wide"] (sp_f_law_take K)) :
    FnG P w K mg base CX0 2 f fd ["box", "boxes", "many"] (sp_f_law_row K) := by
  refine okG F sc_f_law_row (fun vs H Q E h => ?_) (fun cdv A outer s H vs Q E hr h => ⟨_, (pss_cons (ps_set (i := 3) sc_f_law_row.nd rfl (by first | exact Or.inl rfl | exact Or.inr rfl) (pe_ix (ix_g (K := K) rfl) (pe_lst (pa_cons pe_str (pa_cons pe_str (pa_cons pe_str (pa_cons pe_str (pa_cons pe_str (pa_cons pe_str (pa_cons pe_str pa_nil)))))))) (pe_f D_f_law_take (hr.mono (by omega)) (by rfl) pass0 (pa_cons (pv 0) (pa_cons pe_int pa_nil))) (fun _ _ => rfl)))
    (pss_cons (ps_if (pt_cmpR (op_gEq (K := K) rfl hr.units) (pv 3) pe_str (nomark _)) (pss_one (ps_ret (pe_tup (pa_cons (pv 3) pa_nil)))) pss_nil)
    (pss_cons (ps_if (pt_cmpR (op_gEq (K := K) rfl hr.units) (pv 3) pe_str (nomark _)) (pss_one (ps_ret (pe_tup (pa_cons (pv 3) (pa_cons (pe_f D_f_law_take (hr.mono (by omega)) (by rfl) pass0 (pa_cons (pv 0) (pa_cons (pv 2) pa_nil))) pa_nil))))) pss_nil)
    (pss_cons (ps_if (pt_cmpR (op_gEq (K := K) rfl hr.units) (pv 3) pe_str (nomark _)) (pss_one (ps_ret (pe_tup (pa_cons (pv 3) (pa_cons (pe_f D_f_law_take (hr.mono (by omega)) (by rfl) pass0 (pa_cons (pv 0) (pa_cons (pv 1) pa_nil))) (pa_cons (pe_f D_f_law_take (hr.mono (by omega)) (by rfl) pass0 (pa_cons (pv 0) (pa_cons (pv 2) pa_nil))) pa_nil)))))) pss_nil)
    (pss_one (ps_ret (pe_tup (pa_cons (pv 3) (pa_cons (pe_f D_f_law_take (hr.mono (by omega)) (by rfl) pass0 (pa_cons (pv 0) (pa_cons (pv 1) pa_nil))) pa_nil))))))))), ?_⟩)
  · obtain ⟨_, _, _, rfl, _⟩ := h
    rfl
  · obtain ⟨b, m, n, rfl, hB, m1, m5, n1, n14, k⟩ := h
    try dsimp only [cxOf, Cx.nox, Cx.wish]
    change (_ : L2.TS) _ [some (.ref b), some (.int (m : Int)), some (.int (n : Int)), none] _
    refine w_start ?_
    repeat' (tm_at "rs")
    rename_i lw H1 nl sl gl w H2 w0 w1 k2 b2
    have glw : H1 lw = some (.lst (([Str.ofString "raise", Str.ofString "raise", Str.ofString "lower", Str.ofString "if", Str.ofString "if", Str.ofString "go", Str.ofString "stop"] : List Str).map V.str)) := gl
    refine w_ixStrs (ys := [Str.ofString "raise", Str.ofString "raise", Str.ofString "lower", Str.ofString "if", Str.ofString "if", Str.ofString "go", Str.ofString "stop"]) (by tm_at "rsq") w0 (by show w < 7; omega) (fun s hs => ?_)
    have hs : s = Str.ofString "raise" ∨ s = Str.ofString "lower" ∨ s = Str.ofString "if" ∨ s = Str.ofString "go" ∨ s = Str.ofString "stop" := by
      simp only [List.mem_cons, List.not_mem_nil, or_false] at hs
      rcases hs with h | h | h | h | h | h | h <;> simp [h]
    repeat' (tm_at "rs")
    · rename_i e p H3 np sp gp
      subst e
      exact k p .st H3 (by tm_at "rfr") gp trivial (by tm_at "rkp") (by tm_at "rbx")
    · rename_i e0 e g H3 g0 g1 k3 b3 p H4 np sp gp
      subst e
      obtain ⟨g, rfl⟩ := Int.eq_ofNat_of_zero_le g0
      exact k p (.go g) H4 (by tm_at "rfr") gp (show g < n by omega) (by tm_at "rkp") (by tm_at "rbx")
    · rename_i e0 e1 e j H3 j0 j1 k3 b3 g H5 g0 g1 k5 b5 p H4 np sp gp
      subst e
      obtain ⟨g, rfl⟩ := Int.eq_ofNat_of_zero_le g0
      obtain ⟨j, rfl⟩ := Int.eq_ofNat_of_zero_le j0
      exact k p (.br j g) H4 (by tm_at "rfr") gp (show j < m ∧ g < n by omega) (by tm_at "rkp") (by tm_at "rbx")
    · rename_i e0 e1 e j H3 j0 j1 k3 b3 p H4 np sp gp
      obtain ⟨j, rfl⟩ := Int.eq_ofNat_of_zero_le j0
      have hs2 : s = Str.ofString "raise" ∨ s = Str.ofString "lower" := by
        rcases hs with h | h | h | h | h
        · exact .inl h
        · exact .inr h
        · exact absurd h e
        · exact absurd h e1
        · exact absurd h e0
      rcases hs2 with rfl | rfl
      · exact k p (.up j) H4 (by tm_at "rfr") gp (show j < m by omega) (by tm_at "rkp") (by tm_at "rbx")
      · exact k p (.dn j) H4 (by tm_at "rfr") gp (show j < m by omega) (by tm_at "rkp") (by tm_at "rbx")
/-! ### _law_any_rows -/
theorem ok_f_law_any_rows {f : Addr} {fd : FuncData} (F : Fun K "_law_any_rows" "_law_any_rows" s_f_law_any_rows f fd)
    (D_f_law_take : Def P w K mg base CX0 "_law_take" 1 ["box", "wide"] (sp_f_law_take K))
    (D_f_law_row : Def P w K mg base CX0 "_law_row" 2 ["box", "boxes", "many"] (sp_f_law_row K))
    (m_range : mg "range" = none) :
    FnG P w K mg base CX0 3 f fd ["box", "boxes"] (sp_f_law_any_rows K) := by
  refine okG F sc_f_law_any_rows (fun vs H Q E h => ?_) (fun cdv A outer s H vs Q E hr h => ⟨_, (pss_cons (ps_set (i := 2) sc_f_law_any_rows.nd rfl (by first | exact Or.inl rfl | exact Or.inr rfl) (pe_op (op_gAdd (K := K) rfl) pe_int (pe_f D_f_law_take (hr.mono (by omega)) (by rfl) pass0 (pa_cons (pv 0) (pa_cons pe_int pa_nil)))))
    (pss_cons (ps_setLc (i := 3) rfl sc_f_law_any_rows.nd rfl rfl (sw_true rfl rfl rfl (by decide +kernel)) (pi_range1 (by rfl) m_range (pa_cons (pe_op op_sub (pv 2) pe_int) pa_nil)) (blkOk_by (own := [("k", 4)]) (N := ["box", "boxes", "many", "rows", "k"]) (sc := defScope s_f_law_any_rows) (by decide +kernel)) (fun _ _ _ _ _ => (pg_name (i := 4) sc_f_law_any_rows.nd rfl (by first | exact Or.inl rfl | exact Or.inr rfl))) (fun _ _ _ _ _ => pts_nil) (fun _ _ _ _ _ => (pe_f D_f_law_row (hr.mono (by omega)) (by rfl) pass0 (pa_cons (pv 0) (pa_cons (pv 1) (pa_cons (pv 2) pa_nil))))))
    (pss_one (ps_ret (pe_op (op_gAdd (K := K) rfl) (pv 3) (pe_lst (pa_cons (pe_ix (ix_g (K := K) rfl) (pe_lst (pa_cons (pe_tup (pa_cons pe_str pa_nil)) (pa_cons (pe_tup (pa_cons pe_str pa_nil)) (pa_cons (pe_tup (pa_cons pe_str (pa_cons (pe_f D_f_law_take (hr.mono (by omega)) (by rfl) pass0 (pa_cons (pv 0) (pa_cons (pv 2) pa_nil))) pa_nil))) pa_nil)))) (pe_f D_f_law_take (hr.mono (by omega)) (by rfl) pass0 (pa_cons (pv 0) (pa_cons pe_int pa_nil))) (fun _ _ => rfl)) pa_nil))))))), ?_⟩)
  · obtain ⟨_, _, rfl, _⟩ := h
    rfl
  · obtain ⟨b, m, rfl, hB, m1, m5, k⟩ := h
    try dsimp only [cxOf, Cx.nox, Cx.wish]
    change (_ : L2.TS) _ [some (.ref b), some (.int (m : Int)), none, none, none] _
    refine w_start ?_
    repeat' (tm_at "rs")
    rename_i n H1 n0 n1 k1 b1
    obtain ⟨n, rfl⟩ := Int.eq_ofNat_of_zero_le n0
    have en : (1 + (n : Int) - 1).toNat = n := by omega
    rw [en]
    refine lcR (fun D i H' => ∃ vs rs, H' D = some (.lst vs) ∧ RwsAt H' vs rs ∧ rs.length = i ∧ RwsOk m (1 + n) rs ∧ Kp b H1 H' ∧ BoxAt H' b) ?_ ?_ ?_
    · intro D H' nD sm hD
      exact ⟨[], [], hD, .nil, rfl, RwsOk.nil, by tm_at "rkp", by tm_at "rbx"⟩
    · rintro D i H' nD hi ⟨vs, rs, hD, hr, hl, ho, hk, hb⟩
      have hvl := paired_len hr
      repeat' (tm_at "rs")
      refine call_row (n := 1 + n) (by assumption) (by omega) (by omega) (by omega) (by omega) (fun p r H2 np gp ro k2 b2 => ?_)
      repeat' (tm_at "rs")
      rename_i H3 k3 g3
      have t2 : Tk H2 H3 := by tm_at "rtk"
      have t1 : Tk H' H3 := by tm_at "rtk"
      refine ⟨_, rs ++ [r], g3, paired_app (hr.tk t1) (.cons (rw_one (t2 _ _ gp)) .nil), by rw [List.length_append, hl]; rfl, ho.app (RwsOk.one ro), by tm_at "rkp", by tm_at "rbx"⟩
    · rintro D H2 nD ⟨vs, rs, hD, hr, hl, ho, hk, hb⟩
      have hvl := paired_len hr
      repeat' (tm_at "rs")
      rename_i s1 H3 n3 s3 g3 s2 H4 n4 s4 g4 g H5 g0 g1 k5 b5 s3' H6 n6 s6 g6 l1 H7 n7 s7 g7 t H8 t0 t1 k8 b8
      obtain ⟨g, rfl⟩ := Int.eq_ofNat_of_zero_le g0
      have a1 : Tk H3 H8 := by tm_at "rtk"
      have a2 : Tk H4 H8 := by tm_at "rtk"
      have a3 : Tk H6 H8 := by tm_at "rtk"
      refine w_ixP (fun x => ∃ r, RwAt H8 x r ∧ r.ok m (1 + n) ∧ r.ends) (.inl (by tm_at "rsq")) t0 (by show t < 3; omega) (all3 ⟨.st, rw_one (a1 _ _ g3), trivial, trivial⟩ ⟨.st, rw_one (a2 _ _ g4), trivial, trivial⟩ ⟨.go g, rw_one (a3 _ _ g6), (show g < 1 + n by omega), trivial⟩) (fun x hx => ?_)
      obtain ⟨r, hxr, ro, re⟩ := hx
      have hr8 : RwsAt H8 vs rs := hr.tk (by clear a1 a2 a3; tm_at "rtk")
      repeat' (tm_at "rs")
      rename_i q H9 nq sq gq q2 Ha nq2 sq2 gq2
      exact k _ _ (rs ++ [r]) _ (by tm_at "rfr") gq2 (paired_app (hr8.tk (Tk.trans (Tk.sm sq) (Tk.sm sq2))) (.cons (hxr.tk (Tk.trans (Tk.sm sq) (Tk.sm sq2))) .nil)) ⟨m1, m5, by rw [List.length_append, hl, Nat.add_comm]; exact ho.app (RwsOk.one ro), by rw [List.length_append, hl]; show n + 1 ≤ 14; omega, rs, r, rfl, re⟩ (by tm_at "rkp") (by tm_at "rbx")
/-! ### _law_some_program -/
theorem ok_f_law_some_program {f : Addr} {fd : FuncData} (F : Fun K "_law_some_program" "_law_some_program" s_f_law_some_program f fd)
    (D_f_law_take : Def P w K mg base CX0 "_law_take" 1 ["box", "wide"] (sp_f_law_take K))
    (D_f_law_ending_rows : Def P w K mg base CX0 "_law_ending_rows" 3 ["box", "boxes"] (sp_f_law_ending_rows K))
    (D_f_law_any_rows : Def P w K mg base CX0 "_law_any_rows" 3 ["box", "boxes"] (sp_f_law_any_rows K)) :
    FnG P w K mg base CX0 4 f fd ["box"] (sp_f_law_some_program K) := by
  refine okG F sc_f_law_some_program (fun vs H Q E h => ?_) (fun cdv A outer s H vs Q E hr h => ⟨_, (pss_cons (ps_set (i := 1) sc_f_law_some_program.nd rfl (by first | exact Or.inl rfl | exact Or.inr rfl) (pe_op (op_gAdd (K := K) rfl) pe_int (pe_f D_f_law_take (hr.mono (by omega)) (by rfl) pass0 (pa_cons (pv 0) (pa_cons pe_int pa_nil)))))
    (pss_cons (ps_if (pt_cmpR (op_gEq (K := K) rfl hr.units) (pe_f D_f_law_take (hr.mono (by omega)) (by rfl) pass0 (pa_cons (pv 0) (pa_cons pe_int pa_nil))) pe_int (nomark _)) (pss_one (ps_ret (pe_tup (pa_cons (pv 1) (pa_cons (pe_f D_f_law_any_rows (hr.mono (by omega)) (by rfl) pass0 (pa_cons (pv 0) (pa_cons (pv 1) pa_nil))) pa_nil))))) pss_nil)
    (pss_one (ps_ret (pe_tup (pa_cons (pv 1) (pa_cons (pe_f D_f_law_ending_rows (hr.mono (by omega)) (by rfl) pass0 (pa_cons (pv 0) (pa_cons (pv 1) pa_nil))) pa_nil))))))), ?_⟩)
  · obtain ⟨_, rfl, _⟩ := h
    rfl
  · obtain ⟨b, rfl, hB, k⟩ := h
    try dsimp only [cxOf, Cx.nox, Cx.wish]
    change (_ : L2.TS) _ [some (.ref b), none] _
    refine w_start ?_
    repeat' (tm_at "rs")
    · rename_i m H1 m0 m1 k1 b1 z H2 z0 z1 k2 b2 e
      obtain ⟨m, rfl⟩ := Int.eq_ofNat_of_zero_le m0
      refine call_anyRows (m := 1 + m) b2 (by omega) (by omega) (fun p vs rs H3 np gp hr hg k3 b3 => ?_)
      repeat' (tm_at "rs")
      rename_i q H4 nq sq gq
      exact k q p (1 + m) vs rs H4 (by tm_at "rfr") gq (sq _ _ gp) (hr.tk (Tk.sm sq)) hg (by tm_at "rkp") (by tm_at "rbx")
    · rename_i m H1 m0 m1 k1 b1 z H2 z0 z1 k2 b2 e
      obtain ⟨m, rfl⟩ := Int.eq_ofNat_of_zero_le m0
      refine call_endingRows (m := 1 + m) b2 (by omega) (by omega) (fun p vs rs H3 np gp hr hg k3 b3 => ?_)
      repeat' (tm_at "rs")
      rename_i q H4 nq sq gq
      exact k q p (1 + m) vs rs H4 (by tm_at "rfr") gq (sq _ _ gp) (hr.tk (Tk.sm sq)) hg (by tm_at "rkp") (by tm_at "rbx")
/-! ### number_in -/
theorem ok_f_number_in {f : Addr} {fd : FuncData} (F : Fun K "number_in" "number_in" s_f_number_in f fd) {t_FIGURES : Tok}
    (m_int : mg "int" = none)
    (m_len : mg "len" = none)
    (c_FIGURES : mg "FIGURES" = some (.str "0123456789" t_FIGURES)) :
    FnG P w K mg base CX0 1 f fd ["word", "most"] (sp_f_number_in K) := by
  refine okG F sc_f_number_in (fun vs H Q E h => ?_) (fun cdv A outer s H vs Q E hr h => ⟨_, (pss_cons (ps_if (PW.pt (pw_or (pt_not (pt_chain op_gLe op_gLe pe_int (pe_callB (call_gLen (K := K) rfl) (by rfl) m_len PySem.boot_len (pa_cons (pv 0) pa_nil)) (pv 1))) (pw_or (pt_cmpR op_gGt (pe_callB (call_gLen (K := K) rfl) (by rfl) m_len PySem.boot_len (pa_cons (pe_m1 PySem.F.slot_str_strip PySem.F.type_str_strip mt_stripChars (pv 0) (pe_glob (v := .str "0123456789") rfl c_FIGURES ⟨_, rfl⟩)) pa_nil)) pe_int (nomark _)) (pw_or1 (PW.pt (pw_and (pt_cmpR op_gGt (pe_callB (call_gLen (K := K) rfl) (by rfl) m_len PySem.boot_len (pa_cons (pv 0) pa_nil)) pe_int (nomark _)) (pw_and1 (pt_cmpR (op_gEq (K := K) rfl hr.units) (pe_ix (ix_g (K := K) rfl) (pv 0) pe_int (fun _ _ => rfl)) pe_str (nomark _))))))))) (pss_one (ps_ret pe_non)) pss_nil)
    (pss_one (ps_ret (pe_callTy call_gIntS (by rfl) m_int PyProof.Rows.boot_int (pa_cons (pv 0) pa_nil))))), ?_⟩)
  · obtain ⟨_, _, rfl, _⟩ := h
    rfl
  · obtain ⟨z, n, rfl, hz, k⟩ := h
    try dsimp only [cxOf, Cx.nox, Cx.wish]
    change (_ : L2.TS) _ [some (.str z), some (.int 2)] _
    refine w_start ?_
    obtain ⟨l1, l2, hst, z0, hit, b0, n0⟩ := hz
    repeat' (tm_at "rs")
    · exfalso; omega
    · refine w_stpE (sz_of (by omega)) ?_
      generalize Txt.stripChars z (Str.ofString "0123456789") = y at *
      have zl : z.length ≤ 1000 := by omega
      repeat' (tm_at "rs")
      · exfalso; omega
      · rename_i c hc e
        have e : c = 48 := by cases e; rfl
        subst e
        exact absurd hc (z0 (by omega))
      · refine w_intS hit (by omega) ?_
        repeat' (tm_at "rs")
        exact k
      · refine w_intS hit (by omega) ?_
        repeat' (tm_at "rs")
        exact k
    · exfalso; omega
/-! ### boxes_in -/
theorem ok_f_boxes_in {f : Addr} {fd : FuncData} (F : Fun K "boxes_in" "boxes_in" s_f_boxes_in f fd)
    (D_f_number_in : Def P w K mg base CX0 "number_in" 1 ["word", "most"] (sp_f_number_in K))
    (m_len : mg "len" = none) :
    FnG P w K mg base CX0 2 f fd ["line"] (sp_f_boxes_in K) := by
  refine okG F sc_f_boxes_in (fun vs H Q E h => ?_) (fun cdv A outer s H vs Q E hr h => ⟨_, (pss_cons (ps_set (i := 1) sc_f_boxes_in.nd rfl (by first | exact Or.inl rfl | exact Or.inr rfl) (pe_split (pv 0) pe_str))
    (pss_cons (ps_if (PW.pt (pw_or (pt_cmpR (op_gNe (K := K) rfl hr.units) (pe_callB (call_gLen (K := K) rfl) (by rfl) m_len PySem.boot_len (pa_cons (pv 1) pa_nil)) pe_int (nomark _)) (pw_or1 (pt_cmpR (op_gNe (K := K) rfl hr.units) (pe_ix (ix_g (K := K) rfl) (pv 1) pe_int (fun _ _ => rfl)) pe_str (nomark _))))) (pss_one (ps_ret pe_non)) pss_nil)
    (pss_one (ps_ret (pe_f D_f_number_in (hr.mono (by omega)) (by rfl) pass0 (pa_cons (pe_ix (ix_g (K := K) rfl) (pv 1) pe_int (fun _ _ => rfl)) (pa_cons pe_int pa_nil))))))), ?_⟩)
  · obtain ⟨_, rfl, _⟩ := h
    rfl
  · obtain ⟨n, rfl, hn, k⟩ := h
    try dsimp only [cxOf, Cx.nox, Cx.wish]
    change (_ : L2.TS) _ [some (.str (Str.ofString "boxes " ++ toString (n : Int))), none] _
    refine w_start ?_
    repeat' (tm_at "rs")
    have hd := dg hn
    have e : Txt.split (Str.ofString "boxes " ++ toString (n : Int)) (Str.ofString " ") = [Str.ofString "boxes", toString (n : Int)] := by
      have j : Str.ofString "boxes " ++ toString (n : Int) = Txt.join (Str.ofString " ") [Str.ofString "boxes", toString (n : Int)] := by
        apply str_ext
        show (Str.ofString "boxes " ++ (toString (n : Int) : Str)).cps.toList = _
        rw [app_list]
        show _ = ((Str.ofString "boxes").cps ++ (Str.ofString " ").cps ++ (toString (n : Int) : Str).cps).toList
        rw [Array.toList_append, Array.toList_append]
        rfl
      rw [j]
      refine split_sp (by simp) fun p hp => ?_
      simp only [List.mem_cons, List.not_mem_nil, or_false] at hp
      rcases hp with rfl | rfl
      · decide +kernel
      · exact hd.b0
    refine w_splE rfl ?_ (fun p H1 np sp gp => ?_)
    · have h1 : (toString (n : Int) : Str).length ≤ 2 := hd.l2
      show (Str.ofString "boxes " ++ (toString (n : Int) : Str)).length + 2 ≤ 16000000
      rw [app_len]
      have h2 : (Str.ofString "boxes ").length = 6 := rfl
      omega
    have gp : H1 p = some (.lst [V.str (Str.ofString "boxes"), V.str (toString (n : Int))]) := by
      rw [gp]
      congr 2
      exact congrArg (List.map V.str) e
    repeat' (tm_at "rs")
    · rename_i hh; exact absurd rfl hh
    refine call_numberIn hd ?_
    repeat' (tm_at "rs")
    exact k _ sp
/-! ### row_in -/
theorem ok_f_row_in {f : Addr} {fd : FuncData} (F : Fun K "row_in" "row_in" s_f_row_in f fd) {a_SHAPES : Addr}
    (D_f_number_in : Def P w K mg base CX0 "number_in" 1 ["word", "most"] (sp_f_number_in K))
    (m_tuple : mg "tuple" = none)
    (m_len : mg "len" = none)
    (c_SHAPES : mg "SHAPES" = some (.ref a_SHAPES))
    (d_SHAPES : KDt K w a_SHAPES [(Str.ofString "raise", [Str.ofString "box"]), (Str.ofString "lower", [Str.ofString "box"]), (Str.ofString "if", [Str.ofString "box", Str.ofString "goal"]), (Str.ofString "go", [Str.ofString "goal"]), (Str.ofString "stop", [])]) :
    FnG P w K mg base CX0 2 f fd ["line"] (sp_f_row_in K) := by
  refine okG F sc_f_row_in (fun vs H Q E h => ?_) (fun cdv A outer s H vs Q E hr h => ⟨_, (pss_cons (ps_set (i := 1) sc_f_row_in.nd rfl (by first | exact Or.inl rfl | exact Or.inr rfl) (pe_split (pv 0) pe_str))
    (pss_cons (ps_if (PW.pt (pw_or (pt_cmp (pc_niK (pe_ix (ix_g (K := K) rfl) (pv 1) pe_int (fun _ _ => rfl)) (pe_glob (v := .ref a_SHAPES) rfl c_SHAPES rfl))) (pw_or1 (pt_cmpR (op_gNe (K := K) rfl hr.units) (pe_callB (call_gLen (K := K) rfl) (by rfl) m_len PySem.boot_len (pa_cons (pv 1) pa_nil)) (pe_op (op_gAdd (K := K) rfl) pe_int (pe_callB (call_gLen (K := K) rfl) (by rfl) m_len PySem.boot_len (pa_cons (pe_kget (pe_glob (v := .ref a_SHAPES) rfl c_SHAPES rfl) (pe_ix (ix_g (K := K) rfl) (pv 1) pe_int (fun _ _ => rfl)) (fun _ _ => rfl)) pa_nil))) (nomark _))))) (pss_one (ps_ret pe_non)) pss_nil)
    (pss_cons (ps_setLc (i := 2) rfl sc_f_row_in.nd rfl rfl (sw_true rfl rfl rfl (by decide +kernel)) (pi_gl (K := K) rfl (pe_slice (sl_gl (K := K) rfl) (pv 1) (po_some pe_int) po_none)) (blkOk_by (own := [("word", 3)]) (N := ["line", "words", "numbers", "word"]) (sc := defScope s_f_row_in) (by decide +kernel)) (fun _ _ _ _ _ => (pg_name (i := 3) sc_f_row_in.nd rfl (by first | exact Or.inl rfl | exact Or.inr rfl))) (fun _ _ _ _ _ => pts_nil) (fun _ _ _ _ _ => (pe_f D_f_number_in (hr.mono (by omega)) (by rfl) pass0 (pa_cons (pv 3) (pa_cons pe_int pa_nil)))))
    (pss_cons (ps_if (pt_cmpR (op_gInSeq (K := K) rfl) pe_non (pv 2) (by rfl)) (pss_one (ps_ret pe_non)) pss_nil)
    (pss_one (ps_ret (pe_callTy (call_gTuple (K := K) rfl) (by rfl) m_tuple PyProof.Rows.boot_tuple (pa_cons (pe_op (op_gAdd (K := K) rfl) (pe_slice (sl_gl (K := K) rfl) (pv 1) po_none (po_some pe_int)) (pv 2)) pa_nil)))))))), ?_⟩)
  · obtain ⟨_, _, _, rfl, _⟩ := h
    rfl
  · obtain ⟨r, m, n, rfl, hro, hm, hn, k⟩ := h
    try dsimp only [cxOf, Cx.nox, Cx.wish]
    change (_ : L2.TS) _ [some (.str (rwT r)), none, none, none] _
    refine w_start ?_
    repeat' (tm_at "rs")
    have hvs := rw_nums r
    have hno := rw_nums_lt hro hm hn
    have hsv := rw_sv r
    have nb : ∀ p ∈ r.vs.map shV, 32 ∉ p.cps.toList := fun p hp => by
      rw [hsv] at hp
      rcases List.mem_cons.mp hp with rfl | hp
      · cases r
        · exact (by decide +kernel : 32 ∉ (Str.ofString "raise").cps.toList)
        · exact (by decide +kernel : 32 ∉ (Str.ofString "lower").cps.toList)
        · exact (by decide +kernel : 32 ∉ (Str.ofString "if").cps.toList)
        · exact (by decide +kernel : 32 ∉ (Str.ofString "go").cps.toList)
        · exact (by decide +kernel : 32 ∉ (Str.ofString "stop").cps.toList)
      · obtain ⟨j, hj, rfl⟩ := List.mem_map.mp hp
        exact (dg (hno j hj)).b0
    have ne : r.vs.map shV ≠ [] := by rw [hsv]; exact List.cons_ne_nil _ _
    have hrl := rwT_le (by omega) (by omega) hro
    refine w_splE rfl (by omega) (fun p H1 np sp gp => ?_)
    rw [show Txt.split (rwT r) (Str.ofString " ") = r.vs.map shV from split_sp ne nb, hsv] at gp
    have gp1 : H1 p = some (.lst (V.str r.word :: (r.nums.map dgS).map V.str)) := gp
    have hl3 : ((V.str r.word :: (r.nums.map dgS).map V.str).length : Int) = 1 + ((r.kinds.map V.str).length : Nat) := by cases r <;> rfl
    have hnl : r.nums.length ≤ 2 := by cases r <;> exact Nat.le_of_ble_eq_true rfl
    clear gp
    repeat' (tm_at "rs")
    refine w_nieT d_SHAPES (Rw.shp r) ?_
    repeat' (tm_at "rs")
    refine w_kge d_SHAPES (Rw.shp r) (fun t ht => ?_)
    repeat' (tm_at "rs")
    · rename_i e
      exact absurd hl3 e
    rename_i e1 q H2 nq sq gq
    rw [cut_lo (by decide), show (V.str r.word :: (r.nums.map dgS).map V.str).drop (1 : Int).toNat = (r.nums.map dgS).map V.str from rfl] at gq
    refine lcLs (xs := (r.nums.map dgS).map V.str) (fun D i H' => H' D = some (.lst (nV (r.nums.take i))) ∧ Sm H2 H') ?_ ?_ ?_ ?_
    · exact fun D H' nD sm hD => ⟨hD, sm⟩
    · exact fun D i H' nD hi h => sq_of (h.2 _ _ gq)
    · rintro D i x H' nD hx ⟨hD, hs⟩
      rw [List.getElem?_map, List.getElem?_map] at hx
      cases hj : r.nums[i]? with
      | none => rw [hj] at hx; cases hx
      | some j =>
        rw [hj] at hx
        cases hx
        have hjm := hno j (List.mem_of_getElem? hj)
        have hil : (nV (r.nums.take i)).length ≤ 100 := by rw [nV_len, List.length_take]; omega
        have htk : nV (r.nums.take (i + 1)) = nV (r.nums.take i) ++ [V.int (j : Int)] := by
          rw [List.take_succ, hj]
          show List.map _ (_ ++ [j]) = _
          rw [List.map_append]
          rfl
        repeat' (tm_at "rs")
        refine call_numberIn (z := dgS j) (dg hjm) ?_
        repeat' (tm_at "rs")
        rename_i H5 k5 g5
        exact ⟨by rw [htk]; exact g5, by tm_at "rsm"⟩
    · rintro D H3 nD ⟨hD, hs⟩
      rw [List.length_map, List.length_map, List.take_length] at hD
      repeat' (tm_at "rs")
      have hfl : ∀ l : List Nat, (nV l).all flatV = true ∧ inV .non (nV l) = false := fun l => by
        constructor
        · rw [List.all_eq_true]
          intro x hx
          obtain ⟨j, _, rfl⟩ := List.mem_map.mp hx
          rfl
        · unfold inV
          rw [List.any_eq_false]
          intro x hx
          obtain ⟨j, _, rfl⟩ := List.mem_map.mp hx
          simp [eqV]
      refine ⟨D, nV r.nums, rfl, .inl (sq_of hD), rfl, (hfl _).1, ?_⟩
      rw [(hfl _).2, if_neg (by decide)]
      have gp3 := hs _ _ (sq _ _ gp1)
      have hnl2 : (nV r.nums).length ≤ 10 := by rw [nV_len]; omega
      repeat' (tm_at "rs")
      rename_i A HA nA sA gA
      have gA1 : HA A = some (.lst [V.str r.word]) := by
        rw [gA, cut_hi (by decide)]
        rfl
      have hD2 := sA _ _ hD
      clear gA
      repeat' (tm_at "rs")
      rename_i B HB nB sB gB t HC nC sC gC
      have s0 : Sm H HC := sp.trans (sq.trans (hs.trans (sA.trans (sB.trans sC))))
      refine k t HC (Same.free (sp.trans (sq.trans (hs.trans (sA.trans sB)))) nC) s0 ?_
      rw [gC, hvs]
      rfl
/-! ### read_program -/
theorem ok_f_read_program {f : Addr} {fd : FuncData} (F : Fun K "read_program" "read_program" s_f_read_program f fd) {C_Program : Addr}
    (D_f_boxes_in : Def P w K mg base CX0 "boxes_in" 2 ["line"] (sp_f_boxes_in K))
    (G_Program : DefM P w K mg base CX0 "Program" 5 ["self", "boxes", "rows"] (sp_f_Program__init K) C_Program)
    (SC_Program : ClsN K "Program" C_Program ["boxes", "rows"])
    (D_f_row_in : Def P w K mg base CX0 "row_in" 2 ["line"] (sp_f_row_in K))
    (m_enumerate : mg "enumerate" = none) :
    FnG P w K mg base CX0 7 f fd ["text"] (sp_f_read_program K) := by
  refine okG F sc_f_read_program (fun vs H Q E h => ?_) (fun cdv A outer s H vs Q E hr h => ⟨_, (pss_cons (ps_set (i := 1) sc_f_read_program.nd rfl (by first | exact Or.inl rfl | exact Or.inr rfl) (pe_split (pv 0) pe_str))
    (pss_cons (ps_set (i := 2) sc_f_read_program.nd rfl (by first | exact Or.inl rfl | exact Or.inr rfl) (pe_f D_f_boxes_in (hr.mono (by omega)) (by rfl) pass0 (pa_cons (pe_ix (ix_g (K := K) rfl) (pv 1) pe_int (fun _ _ => rfl)) pa_nil)))
    (pss_cons (ps_if (pt_cmpR op_gIs (pv 2) pe_non (nomark _)) (pss_one ps_never) pss_nil)
    (pss_cons (ps_set (i := 3) sc_f_read_program.nd rfl (by first | exact Or.inl rfl | exact Or.inr rfl) (pe_lst pa_nil))
    (pss_cons (ps_for PassesOwn.never rfl (pi_enum1 (K := K) rfl (by rfl) m_enumerate (pa_cons (pe_slice (sl_gl (K := K) rfl) (pv 1) (po_some (pe_int)) po_none) (pa_cons pe_int pa_nil))) (pg_gt (K := K) (n := 2) rfl rfl (pgs_cons (pg_name (i := 4) sc_f_read_program.nd rfl (by first | exact Or.inl rfl | exact Or.inr rfl)) (pgs_cons (pg_name (i := 5) sc_f_read_program.nd rfl (by first | exact Or.inl rfl | exact Or.inr rfl)) pgs_nil))) (pss_cons (ps_set (i := 6) sc_f_read_program.nd rfl (by first | exact Or.inl rfl | exact Or.inr rfl) (pe_f D_f_row_in (hr.mono (by omega)) (by rfl) pass0 (pa_cons (pv 5) pa_nil)))
    (pss_cons (ps_if (pt_cmpR op_gIs (pv 6) pe_non (nomark _)) (pss_one ps_never) pss_nil)
    (pss_one (ps_expr (pe_gbm (K := K) rfl PySem.F.plainAttrs_list PySem.F.slot_list_append PySem.F.type_list_append mt_append (pv 3) (pa_cons (pv 6) pa_nil)))))))
    (pss_one (ps_ret (pe_mk G_Program (hr.mono (by omega)) (by rfl) pass0 (pa_cons (pv 2) (pa_cons (pv 3) pa_nil)))))))))), ?_⟩)
  · obtain ⟨_, _, rfl, _⟩ := h
    rfl
  · obtain ⟨m, rs, rfl, hg, k⟩ := h
    try dsimp only [cxOf, Cx.nox, Cx.wish]
    change (_ : L2.TS) _ [some (.str (pgT m rs)), none, none, none, none, none, none] _
    refine w_start ?_
    repeat' (tm_at "rs")
    have ho := hg.ok
    have hm5 := hg.b5
    have hl14 := hg.len
    have e1 : (Str.ofString "\n").length = 1 := rfl
    have hpl : (pgT m rs).length ≤ 20000 := by
      have h1 := join_le (sep := Str.ofString "\n") (B := 100) (lnsT m rs) (lnsT_le (by omega) (by omega) ho)
      rw [lnsT_len, e1] at h1
      show (Txt.join _ _).length ≤ _
      omega
    refine w_splE rfl (by omega) (fun L H1 nL sL gL => ?_)
    rw [show Txt.split (pgT m rs) (Str.ofString "\n") = lnsT m rs from split_nl (by unfold lnsT; exact List.cons_ne_nil _ _) (lns_nl ho (by omega) (by omega))] at gL
    have gL1 : H1 L = some (.lst (V.str (Str.ofString "boxes " ++ toString (m : Int)) :: (rs.map rwT).map V.str)) := gL
    clear gL
    repeat' (tm_at "rs")
    refine call_boxesIn (n := m) (by omega) (fun H2 s2 => ?_)
    have gL2 := s2 _ _ gL1
    repeat' (tm_at "rs")
    rename_i R HR nR sR gR C HC nC sC gC
    rw [cut_lo (by decide), show (V.str (Str.ofString "boxes " ++ Str.ofString (toString (m : Int))) :: (rs.map rwT).map V.str).drop (1 : Int).toNat = (rs.map rwT).map V.str from rfl] at gC
    have gR2 := sC _ _ gR
    have RC : C ≠ R := fun e => by rw [e, gR] at nC; cases nC
    have s0 : Sm H HC := sL.trans (s2.trans (sR.trans sC))
    have nR0 : H R = none := Same.free (sL.trans s2) nR
    refine loopE1 (xs := (rs.map rwT).map V.str) (fun i σ' H' => ∃ (x4 x5 x6 : Option V) (us : List V), σ' = [some (.str (pgT m rs)), some (.ref L), some (.int (m : Nat)), some (.ref R), x4, x5, x6] ∧ Kp R HC H' ∧ H' R = some (.lst us) ∧ RwsAt H' us (rs.take i)) ?_ ?_ ?_ ?_
    · exact ⟨_, _, _, [], rfl, Kp.refl _, gR2, .nil⟩
    · rintro i σ' H' hi ⟨x4, x5, x6, us, rfl, hk, hr, hR⟩
      exact sq_of (hk _ _ RC gC)
    · rintro i x T σ' H3 H4 hi hx ⟨x4, x5, x6, us, rfl, hk, hr, hR⟩ nT sT gT
      rw [List.getElem?_map, List.getElem?_map] at hx
      cases hj : rs[i]? with
      | none => rw [hj] at hx; cases hx
      | some r =>
        rw [hj] at hx
        cases hx
        have hro := ho r (List.mem_of_getElem? hj)
        have hr4 := sT _ _ hr
        have hil := (List.getElem?_eq_some_iff.mp hj).1
        have hul : us.length ≤ 100 := by
          have := paired_len hR
          rw [List.length_take] at this
          omega
        repeat' (tm_at "rs")
        refine call_rowIn hro (by omega) (by omega) (fun t H5 nt st gt => ?_)
        have hr5 := st _ _ hr4
        repeat' (tm_at "rs")
        rename_i H6 k6 g6
        have k36 : Kp R H3 H6 := Kp.trans (Kp.of (sT.trans st)) k6
        have t36 : Tk H3 H6 := Tk.kp hr k36
        have t56 : Tk H5 H6 := Tk.kp hr5 k6
        refine ⟨_, _, _, us ++ [.ref t], rfl, Kp.trans hk k36, g6, ?_⟩
        rw [List.take_succ, hj]
        exact paired_app (hR.tk t36) (.cons ⟨t, rfl, t56 _ _ gt⟩ .nil)
    · rintro σ' H3 ⟨x4, x5, x6, us, rfl, hk, hr, hR⟩
      rw [List.length_map, List.length_map, List.take_length] at hR
      repeat' (tm_at "rs")
      refine mk_prog SC_Program hr hR hg (fun p H5 np sp hv => ?_)
      repeat' (tm_at "rs")
      have s3 : Sm H H3 := fun x o h => hk x o (ne_of_none h nR0) (s0 _ _ h)
      exact k _ _ (s3.trans sp) hv
/-! ### _law_box -/
theorem ok_f_law_box {f : Addr} {fd : FuncData} (F : Fun K "_law_box" "_law_box" s_f_law_box f fd)
    (m_len : mg "len" = none)
    (m_int : mg "int" = none) :
    FnG P w K mg base CX0 1 f fd ["script", "k"] (sp_f_law_box K) := by
  refine okG F sc_f_law_box (fun vs H Q E h => ?_) (fun cdv A outer s H vs Q E hr h => ⟨_, (pss_cons (ps_set (i := 2) sc_f_law_box.nd rfl (by first | exact Or.inl rfl | exact Or.inr rfl) (pe_op (op_gAdd (K := K) rfl) (pe_op op_gMul pe_int (pv 1)) pe_int))
    (pss_cons (ps_if (pt_cmpR op_gLt (pv 1) (pe_callB (call_gLen (K := K) rfl) (by rfl) m_len PySem.boot_len (pa_cons (pv 0) pa_nil)) (nomark _)) (pss_one (ps_set (i := 2) sc_f_law_box.nd rfl (by first | exact Or.inl rfl | exact Or.inr rfl) (pe_ix (ix_g (K := K) rfl) (pv 0) (pv 1) (fun _ _ => rfl)))) (pss_one (ps_if (pt_cmpR op_gGt (pe_callB (call_gLen (K := K) rfl) (by rfl) m_len PySem.boot_len (pa_cons (pv 0) pa_nil)) pe_int (nomark _)) (pss_one (ps_set (i := 2) sc_f_law_box.nd rfl (by first | exact Or.inl rfl | exact Or.inr rfl) (pe_op (op_gAdd (K := K) rfl) (pv 2) (pe_op op_gMul (pe_op op_gMod (pe_ix (ix_g (K := K) rfl) (pv 0) (pe_op op_gMod (pv 1) (pe_callB (call_gLen (K := K) rfl) (by rfl) m_len PySem.boot_len (pa_cons (pv 0) pa_nil))) (fun _ _ => rfl)) pe_int) pe_int)))) pss_nil)))
    (pss_cons (ps_set (i := 3) sc_f_law_box.nd rfl (by first | exact Or.inl rfl | exact Or.inr rfl) (pe_op (op_gAdd (K := K) rfl) (pe_op op_gMod (pe_op (op_gAdd (K := K) rfl) (pe_op op_gMul (pe_op op_gMod (pv 2) pe_int) pe_int) (pe_op op_gMul pe_int (pv 1))) pe_int) pe_int))
    (pss_one (ps_ret (pe_lst (pa_cons (pe_ix (ix_g (K := K) rfl) (pe_lst (pa_cons pe_int (pa_cons (pv 2) pa_nil))) (pe_callTy call_gInt (by rfl) m_int PyProof.Rows.boot_int (pa_cons (pe_cmpR op_gGe (pv 2) (pe_op op_gPow pe_int pe_int) (nomark _)) pa_nil)) (fun _ _ => rfl)) (pa_cons (pv 3) pa_nil)))))))), ?_⟩)
  · obtain ⟨_, _, _, rfl, _⟩ := h
    rfl
  · obtain ⟨a, ns, i, rfl, hS, h0, h1, k⟩ := h
    try dsimp only [cxOf, Cx.nox, Cx.wish]
    change (_ : L2.TS) _ [some (.ref a), some (.int i), none, none] _
    refine w_start ?_
    have big : (0 : Int) ≤ 10 ^ Int.toNat 18 := by decide
    repeat' (tm_at "rs")
    · refine w_ixInts hS h0 (by assumption) (fun n _ => ?_)
      repeat' (tm_at "rs")
      all_goals refine k _ _ ?_ ?_ ⟨_, _, by assumption, by omega, by omega, by omega⟩
      all_goals tm_at "rz"
    · rename_i z z1 z2 z3 z4
      refine w_ixInts hS z2 z3 (fun n _ => ?_)
      repeat' (tm_at "rs")
      all_goals refine k _ _ ?_ ?_ ⟨_, _, by assumption, by omega, by omega, by omega⟩
      all_goals tm_at "rz"
    all_goals refine k _ _ ?_ ?_ ⟨_, _, by assumption, by omega, by omega, by omega⟩
    all_goals tm_at "rz"
/-! ### lines_of -/
theorem ok_f_lines_of {f : Addr} {fd : FuncData} (F : Fun K "lines_of" "lines_of" s_f_lines_of f fd)
    (m_str : mg "str" = none) :
    FnG P w K mg base CX0 1 f fd ["program"] (sp_f_lines_of K) := by
  refine okG F sc_f_lines_of (fun vs H Q E h => ?_) (fun cdv A outer s H vs Q E hr h => ⟨_, (pss_cons (ps_set (i := 1) sc_f_lines_of.nd rfl (by first | exact Or.inl rfl | exact Or.inr rfl) (pe_lst (pa_cons (pe_joined (PJ.cons pe_str (PJ.cons (pe_fmt (pe_fld (pv 0) rfl)) PJ.nil))) pa_nil)))
    (pss_cons (ps_for PassesOwn.never rfl (pi_gt (K := K) rfl (pe_fld (pv 0) rfl)) (pg_name (i := 2) sc_f_lines_of.nd rfl (by first | exact Or.inl rfl | exact Or.inr rfl)) (pss_one (ps_expr (pe_gbm (K := K) rfl PySem.F.plainAttrs_list PySem.F.slot_list_append PySem.F.type_list_append mt_append (pv 1) (pa_cons (pe_join pe_str (pe_lc (own := _) rfl sc_f_lines_of.nd (pi_gt (K := K) rfl (pv 2)) (blkOk_by (own := [("thing", 3)]) (N := ["program", "lines", "row", "thing"]) (sc := defScope s_f_lines_of) (by decide +kernel)) (fun _ _ _ _ _ => (pg_name (i := 3) sc_f_lines_of.nd rfl (by first | exact Or.inl rfl | exact Or.inr rfl))) (fun _ _ _ _ _ => pts_nil) (fun _ _ _ _ _ => (pe_callTy call_gStr2 (by rfl) m_str PyProof.Rows.boot_str (pa_cons (pv 3) pa_nil))))) pa_nil)))))
    (pss_one (ps_ret (pv 1))))), ?_⟩)
  · obtain ⟨_, _, _, rfl, _⟩ := h
    rfl
  · obtain ⟨v, m, rs, rfl, hv, hm, ho, hl, k⟩ := h
    try dsimp only [cxOf, Cx.nox, Cx.wish]
    change (_ : L2.TS) _ [some (v), none, none, none] _
    refine w_start ?_
    repeat' (tm_at "rs")
    rename_i L H1 nL s1 g1 t us hT hR
    refine loopT (xs := us) (fun i σ' H' => ∃ (x2 : Option V), σ' = [some v, some (.ref L), x2, none] ∧ Kp L H1 H' ∧ H' L = some (.lst ((((Str.ofString "boxes " ++ toString (m : Int)) :: (rs.take i).map rwT)).map V.str))) ⟨_, rfl, Kp.refl _, g1⟩ ?_ ?_ ?_
    · rintro i σ' H' hi ⟨x2, rfl, kL, gL⟩
      exact st_of (Tk.kp g1 kL _ _ hT)
    · rintro i x σ' H' hx ⟨x2, rfl, kL, gL⟩
      obtain ⟨r, hr, p, rfl, hp⟩ := paired_get hR hx
      have hp2 := Tk.kp g1 kL _ _ hp
      have hro := ho r (List.mem_of_getElem? hr)
      have hvs := rw_vs_ok hm hl hro
      have hsl := rw_sh_le hm hl hro
      have hrl := rw_vs_len r
      repeat' (tm_at "rs")
      refine lcTp (xs := r.vs) (fun D i H2 => H2 D = some (.lst (((r.vs.take i).map shV).map V.str)) ∧ Sm H' H2) ?_ ?_ ?_ ?_
      · exact fun D H2 nD sm hD => ⟨hD, sm⟩
      · rintro D i H2 nD hi ⟨hD, sm⟩
        exact st_of (sm _ _ hp2)
      · rintro D i x H2 nD hx ⟨hD, sm⟩
        have hxo := hvs x (List.mem_of_getElem? hx)
        have htk : r.vs.take (i + 1) = r.vs.take i ++ [x] := by rw [List.take_succ, hx]; rfl
        have hil := (List.getElem?_eq_some_iff.mp hx).1
        have hdl : (((r.vs.take i).map shV).map V.str).length ≤ 100 := by rw [List.length_map, List.length_map, List.length_take]; omega
        repeat' (tm_at "rs")
        refine w_str2 (by rcases hxo with ⟨a, e, _⟩ | h; exact .inl ⟨a, e⟩; exact .inr h) ?_
        repeat' (tm_at "rs")
        rename_i H3 k3 g3
        refine ⟨?_, by tm_at "rsm"⟩
        rw [htk, List.map_append, List.map_append]
        exact g3
      · rintro D H2 nD ⟨hD, sm⟩
        rw [List.take_length] at hD
        have gL2 := sm _ _ gL
        have htk : rs.take (i + 1) = rs.take i ++ [r] := by rw [List.take_succ, hr]; rfl
        have hil := (List.getElem?_eq_some_iff.mp hr).1
        have hdl : (((Str.ofString "boxes " ++ toString (m : Int)) :: (rs.take i).map rwT).map V.str).length ≤ 10000 := by rw [List.length_map, List.length_cons, List.length_map, List.length_take]; omega
        refine w_joinB hD hsl (by rw [List.length_map, show (Str.ofString " ").length = 1 from rfl]; omega) ?_
        repeat' (tm_at "rs")
        rename_i H3 k3 g3
        refine ⟨_, rfl, by tm_at "rkp", ?_⟩
        rw [htk, List.map_append, ← List.cons_append, List.map_append]
        exact g3
    · rintro σ' H' ⟨x2, rfl, kL, gL⟩
      have hul : us.length = rs.length := paired_len hR
      rw [hul, List.take_length] at gL
      repeat' (tm_at "rs")
      exact k _ _ (by tm_at "rfr") (by tm_at "rsm") gL
/-! ### show_program -/
theorem ok_f_show_program {f : Addr} {fd : FuncData} (F : Fun K "show_program" "show_program" s_f_show_program f fd)
    (D_f_lines_of : Def P w K mg base CX0 "lines_of" 1 ["program"] (sp_f_lines_of K)) :
    FnG P w K mg base CX0 2 f fd ["program"] (sp_f_show_program K) := by
  refine okG F sc_f_show_program (fun vs H Q E h => ?_) (fun cdv A outer s H vs Q E hr h => ⟨_, (pss_one (ps_ret (pe_join pe_str (pe_f D_f_lines_of (hr.mono (by omega)) (by rfl) pass0 (pa_cons (pv 0) pa_nil))))), ?_⟩)
  · obtain ⟨_, _, _, rfl, _⟩ := h
    rfl
  · obtain ⟨v, m, rs, rfl, hv, hm, ho, hl, k⟩ := h
    try dsimp only [cxOf, Cx.nox, Cx.wish]
    change (_ : L2.TS) _ [some (v)] _
    refine w_start ?_
    repeat' (tm_at "rs")
    refine call_linesOf hv hm ho hl (fun q H1 nq s1 g1 => ?_)
    repeat' (tm_at "rs")
    have hll := lnsT_len m rs
    refine w_joinB g1 (lnsT_le hm hl ho) (by rw [show (Str.ofString "\n").length = 1 from rfl]; omega) ?_
    repeat' (tm_at "rs")
    exact k _ s1
/-! ### _law_whole -/
theorem ok_f_law_whole {f : Addr} {fd : FuncData} (F : Fun K "_law_whole" "_law_whole" s_f_law_whole f fd)
    (m_isinstance : mg "isinstance" = none)
    (m_bool : mg "bool" = none)
    (m_int : mg "int" = none) :
    FnG P w K mg base CX0 1 f fd ["rows"] (sp_f_law_whole K) := by
  refine okG F sc_f_law_whole (fun vs H Q E h => ?_) (fun cdv A outer s H vs Q E hr h => ⟨_, (pss_cons (ps_for PassesOwn.never rfl (pi_gt (K := K) rfl (pv 0)) (pg_name (i := 1) sc_f_law_whole.nd rfl (by first | exact Or.inl rfl | exact Or.inr rfl)) (pss_one (ps_for PassesOwn.never rfl (pi_gt (K := K) rfl (pe_slice (sl_gl (K := K) rfl) (pv 1) (po_some pe_int) po_none)) (pg_name (i := 2) sc_f_law_whole.nd rfl (by first | exact Or.inl rfl | exact Or.inr rfl)) (pss_one (ps_if (PW.pt (pw_or (pt_not (pt_val (pe_callB (call_gIsi (K := K) rfl) (by rfl) m_isinstance PyProof.Rows.boot_isinstance (pa_cons (pv 2) (pa_cons (pe_bltn (v := .ty "int") (by rfl) m_int PyProof.Rows.boot_int rfl) pa_nil))))) (pw_or1 (pt_val (pe_callB (call_gIsi (K := K) rfl) (by rfl) m_isinstance PyProof.Rows.boot_isinstance (pa_cons (pv 2) (pa_cons (pe_bltn (v := .ty "bool") (by rfl) m_bool PyProof.Rows.boot_bool rfl) pa_nil))))))) (pss_one (ps_ret pe_bl)) pss_nil)))))
    (pss_one (ps_ret pe_bl))), ?_⟩)
  · obtain ⟨_, _, _, rfl, _⟩ := h
    rfl
  · obtain ⟨p, us, rs, rfl, hp, hR, hl0, k⟩ := h
    try dsimp only [cxOf, Cx.nox, Cx.wish]
    change (_ : L2.TS) _ [some (.ref p), none, none] _
    refine w_start ?_
    repeat' (tm_at "rs")
    refine loopT (xs := us) (fun i σ' H' => ∃ (x1 x2 : Option V), σ' = [some (.ref p), x1, x2] ∧ Sm H H') ⟨_, _, rfl, Same.refl _⟩ ?_ ?_ ?_
    · rintro i σ' H' hi ⟨x1, x2, rfl, hs⟩
      exact st_of (hs _ _ hp)
    · rintro i x σ' H' hx ⟨x1, x2, rfl, hs⟩
      obtain ⟨r, hr, q, rfl, hq⟩ := paired_get hR hx
      have hq2 := hs _ _ hq
      repeat' (tm_at "rs")
      rename_i t Ht st gt
      have hti := r.tail_int
      rw [cut_lo (by decide)] at gt
      refine loopT (xs := r.vs.drop (1 : Int).toNat) (fun j σ2 H2 => ∃ (x2 : Option V), σ2 = [some (.ref p), some (.ref q), x2] ∧ Sm Ht H2) ⟨_, rfl, Same.refl _⟩ ?_ ?_ ?_
      · rintro j σ2 H2 hj ⟨x2, rfl, h2⟩
        exact st_of (h2 _ _ gt)
      · rintro j y σ2 H2 hy ⟨x2, rfl, h2⟩
        obtain ⟨n, rfl⟩ := hti y (List.mem_of_getElem? hy)
        repeat' (tm_at "rs")
        exact ⟨_, rfl, h2⟩
      · rintro σ2 H2 ⟨x2, rfl, h2⟩
        repeat' (tm_at "rs")
        exact ⟨_, _, rfl, hs.trans (st.trans h2)⟩
    · rintro σ' H' ⟨x1, x2, rfl, hs⟩
      repeat' (tm_at "rs")
      exact k _ hs
/-! ### Program.__eq__ -/
theorem ok_f_Program__eq {f : Addr} {fd : FuncData} (F : Fun K "__eq__" "Program.__eq__" s_f_Program__eq f fd) {C_Program : Addr}
    (n_Program : mg "Program" = some (.ref C_Program))
    (SC_Program : ClsN K "Program" C_Program ["boxes", "rows"])
    (OC_Program : ClsO K C_Program)
    (m_isinstance : mg "isinstance" = none) :
    FnG P w K mg base CX0 1 f fd ["self", "other"] (sp_f_Program__eq K) := by
  refine okG F sc_f_Program__eq (fun vs H Q E h => ?_) (fun cdv A outer s H vs Q E hr h => ⟨_, (pss_one (ps_ret (pe_and (pe_callB (call_gIsi (K := K) rfl) (by rfl) m_isinstance PyProof.Rows.boot_isinstance (pa_cons (pv 1) (pa_cons (pe_glob (v := .ref C_Program) rfl n_Program rfl) pa_nil))) (pe_and (pe_cmpR (op_gEq (K := K) rfl hr.units) (pe_fld (pv 0) rfl) (pe_fld (pv 1) rfl) (nomark _)) (pe_one (pe_cmpR (op_gEq (K := K) rfl hr.units) (pe_fld (pv 0) rfl) (pe_fld (pv 1) rfl) (nomark _))))))), ?_⟩)
  · obtain ⟨_, _, _, _, _, _, rfl, _⟩ := h
    rfl
  · obtain ⟨a, b, m, n, rs, qs, rfl, ha, hb, k⟩ := h
    try dsimp only [cxOf, Cx.nox, Cx.wish]
    change (_ : L2.TS) _ [some (.ref a), some (.ref b)] _
    refine w_start ?_
    obtain ⟨p2, C2, dx2, t2, us2, e2, c2, g2, _⟩ := id hb
    cases e2
    obtain rfl := prc_eq c2 SC_Program
    repeat' (tm_at "rs")
    refine w_isiOwn g2 c2.cl OC_Program ?_
    repeat' (tm_at "rs")
    · rename_i e t3 us3 h3 r3 t4 us4 h4 r4
      have hmn : m = n := by omega
      refine w_eqRows h3 r3 h4 r4 ?_
      repeat' (tm_at "rs")
      have hd : decide (rs = qs) = decide (m = n ∧ rs = qs) := decide_eq_decide.mpr ⟨fun z => ⟨hmn, z⟩, fun z => z.2⟩
      rw [hd]
      exact k _ (Same.refl _)
    · rename_i e
      have hne : ¬ (m = n ∧ rs = qs) := fun z => e (by rw [z.1])
      rw [show false = decide (m = n ∧ rs = qs) from (decide_eq_false hne).symm]
      exact k _ (Same.refl _)
/-! ### Program.__str__ -/
theorem ok_f_Program__str {f : Addr} {fd : FuncData} (F : Fun K "__str__" "Program.__str__" s_f_Program__str f fd)
    (D_f_lines_of : Def P w K mg base CX0 "lines_of" 1 ["program"] (sp_f_lines_of K)) :
    FnG P w K mg base CX0 2 f fd ["self"] (sp_f_Program__str K) := by
  refine okG F sc_f_Program__str (fun vs H Q E h => ?_) (fun cdv A outer s H vs Q E hr h => ⟨_, (pss_one (ps_ret (pe_join pe_str (pe_f D_f_lines_of (hr.mono (by omega)) (by rfl) pass0 (pa_cons (pv 0) pa_nil))))), ?_⟩)
  · obtain ⟨_, _, _, rfl, _⟩ := h
    rfl
  · obtain ⟨v, m, rs, rfl, hv, hm, ho, hl, k⟩ := h
    try dsimp only [cxOf, Cx.nox, Cx.wish]
    change (_ : L2.TS) _ [some (v)] _
    refine w_start ?_
    repeat' (tm_at "rs")
    refine call_linesOf hv hm ho hl (fun q H1 nq s1 g1 => ?_)
    repeat' (tm_at "rs")
    have hll := lnsT_len m rs
    refine w_joinB g1 (lnsT_le hm hl ho) (by rw [show (Str.ofString "\n").length = 1 from rfl]; omega) ?_
    repeat' (tm_at "rs")
    exact k _ s1
/-! ### law -/
theorem ok_f_law {f : Addr} {fd : FuncData} (F : Fun K "law" "law" s_f_law f fd) {C_Program : Addr}
    (G_Program : DefM P w K mg base CX0 "Program" 5 ["self", "boxes", "rows"] (sp_f_Program__init K) C_Program)
    (SC_Program : ClsN K "Program" C_Program ["boxes", "rows"])
    (D_f_law_text : Def P w K mg base CX0 "_law_text" 1 ["boxes", "rows"] (sp_f_law_text K))
    (D_f_law_some_program : Def P w K mg base CX0 "_law_some_program" 4 ["box"] (sp_f_law_some_program K))
    (D_f_read_program : Def P w K mg base CX0 "read_program" 7 ["text"] (sp_f_read_program K))
    (D_f_law_box : Def P w K mg base CX0 "_law_box" 1 ["script", "k"] (sp_f_law_box K))
    (D_f_show_program : Def P w K mg base CX0 "show_program" 2 ["program"] (sp_f_show_program K))
    (D_f_law_whole : Def P w K mg base CX0 "_law_whole" 1 ["rows"] (sp_f_law_whole K))
    (M_Program_eq : DefO P w K mg base CX0 C_Program "__eq__" 1 ["self", "other"] (sp_f_Program__eq K))
    (OC_Program : ClsO K C_Program)
    (M_Program_str : DefO P w K mg base CX0 C_Program "__str__" 2 ["self"] (sp_f_Program__str K))
    (DK_f_read_program_text : DefK P w K mg base CX0 "read_program" 7 ["text"] ["text"] gk_f_read_program_text (sp_f_read_program K))
    (DK_f_show_program_program : DefK P w K mg base CX0 "show_program" 2 ["program"] ["program"] gk_f_show_program_program (sp_f_show_program K))
    (m_range : mg "range" = none)
    (m_max : mg "max" = none)
    (m_min : mg "min" = none)
    (m_len : mg "len" = none)
    (m_str : mg "str" = none)
    (m_tuple : mg "tuple" = none) :
    FnG P w K mg base CX0 8 f fd ["script"] (sp_f_law K) := by
  refine okG F sc_f_law (fun vs H Q E h => ?_) (fun cdv A outer s H vs Q E hr h => ⟨_, (pss_cons (ps_set (i := 1) sc_f_law.nd rfl (by first | exact Or.inl rfl | exact Or.inr rfl) (pe_lst pa_nil))
    (pss_cons (ps_for PassesOwn.never rfl (pi_range1 (by rfl) m_range (pa_cons (pe_callB (call_gMax rfl) (by rfl) m_max (by decide +kernel) (pa_cons pe_int (pa_cons (pe_callB (call_gMin rfl) (by rfl) m_min (by decide +kernel) (pa_cons (pe_callB (call_gLen (K := K) rfl) (by rfl) m_len PySem.boot_len (pa_cons (pv 0) pa_nil)) (pa_cons pe_int pa_nil))) pa_nil))) pa_nil)) (pg_name (i := 2) sc_f_law.nd rfl (by first | exact Or.inl rfl | exact Or.inr rfl)) (pss_one (ps_expr (pe_gbm (K := K) rfl PySem.F.plainAttrs_list PySem.F.slot_list_append PySem.F.type_list_append mt_append (pv 1) (pa_cons (pe_f D_f_law_some_program (hr.mono (by omega)) (by rfl) pass0 (pa_cons (pe_f D_f_law_box (hr.mono (by omega)) (by rfl) pass0 (pa_cons (pv 0) (pa_cons (pv 2) pa_nil))) pa_nil)) pa_nil)))))
    (pss_cons (ps_for PassesOwn.never rfl (pi_gl (K := K) rfl (pe_op (op_gAdd (K := K) rfl) (pv 1) (pe_slice (sl_gl (K := K) rfl) (pv 1) po_none (po_some pe_int)))) (pg_gt (K := K) (n := 2) rfl rfl (pgs_cons (pg_name (i := 3) sc_f_law.nd rfl (by first | exact Or.inl rfl | exact Or.inr rfl)) (pgs_cons (pg_name (i := 4) sc_f_law.nd rfl (by first | exact Or.inl rfl | exact Or.inr rfl)) pgs_nil))) (pss_cons (ps_set (i := 5) sc_f_law.nd rfl (by first | exact Or.inl rfl | exact Or.inr rfl) (pe_mk G_Program (hr.mono (by omega)) (by rfl) pass0 (pa_cons (pv 3) (pa_cons (pv 4) pa_nil))))
    (pss_cons (ps_set (i := 6) sc_f_law.nd rfl (by first | exact Or.inl rfl | exact Or.inr rfl) (pe_f D_f_law_text (hr.mono (by omega)) (by rfl) pass0 (pa_cons (pv 3) (pa_cons (pv 4) pa_nil))))
    (pss_cons (ps_if (PW.pt (pw_or (pt_cmpR (op_gNe (K := K) rfl hr.units) (pe_f D_f_show_program (hr.mono (by omega)) (by rfl) pass0 (pa_cons (pv 5) pa_nil)) (pv 6) (nomark _)) (pw_or (pt_cmpR (op_gNe (K := K) rfl hr.units) (pe_callTy (cr_strO M_Program_str (hr.mono (by omega)) pass0) (by rfl) m_str PyProof.Rows.boot_str (pa_cons (pv 5) pa_nil)) (pv 6) (nomark _)) (pw_or1 (pt_cmpR (op_gNe (K := K) rfl hr.units) (pe_fK0 DK_f_show_program_program (hr.mono (by omega)) (by rfl) pass0 (pk_cons (pv 5) pk_nil)) (pv 6) (nomark _)))))) (pss_one (ps_ret pe_bl)) pss_nil)
    (pss_one (ps_for PassesOwn.never rfl (pi_gt (K := K) rfl (pe_tup (pa_cons (pe_f D_f_read_program (hr.mono (by omega)) (by rfl) pass0 (pa_cons (pv 6) pa_nil)) (pa_cons (pe_fK0 DK_f_read_program_text (hr.mono (by omega)) (by rfl) pass0 (pk_cons (pe_f D_f_show_program (hr.mono (by omega)) (by rfl) pass0 (pa_cons (pv 5) pa_nil)) pk_nil)) pa_nil)))) (pg_name (i := 7) sc_f_law.nd rfl (by first | exact Or.inl rfl | exact Or.inr rfl)) (pss_one (ps_if (PW.pt (pw_or (pt_cmpR (op_neO M_Program_eq OC_Program.ne OC_Program.mo (hr.mono (by omega)) pass0) (pv 7) (pv 5) (nomark _)) (pw_or (pt_cmpR (op_gNe (K := K) rfl hr.units) (pe_fld (pv 7) rfl) (pv 3) (nomark _)) (pw_or (pt_cmpR (op_gNe (K := K) rfl hr.units) (pe_fld (pv 7) rfl) (pe_callTy (call_gTuple (K := K) rfl) (by rfl) m_tuple PyProof.Rows.boot_tuple (pa_cons (pv 4) pa_nil)) (nomark _)) (pw_or1 (pt_not (pt_val (pe_f D_f_law_whole (hr.mono (by omega)) (by rfl) pass0 (pa_cons (pe_fld (pv 7) rfl) pa_nil))))))))) (pss_one (ps_ret pe_bl)) pss_nil))))))))
    (pss_one (ps_ret pe_bl))))), ?_⟩)
  · obtain ⟨_, _, rfl, _⟩ := h
    rfl
  · obtain ⟨a, ns, rfl, hS, hlen, k⟩ := h
    try dsimp only [cxOf, Cx.nox, Cx.wish]
    change (_ : L2.TS) _ [some (.ref a), none, none, none, none, none, none, none] _
    refine w_start ?_
    have hl0 : (ns.map V.int).length ≤ 63 := by rw [List.length_map]; exact hlen
    repeat' (tm_at "rs")
    rename_i S H1 nS sS gS
    have hS1 := hS.sm sS
    clear hS
    refine loopR (fun i σ' H' => ∃ (x2 x3 x4 x5 x6 x7 : Option V) (xs : List V), σ' = [some (.ref a), some (.ref S), x2, x3, x4, x5, x6, x7] ∧ H' S = some (.lst xs) ∧ xs.length = i ∧ (∀ x ∈ xs, E5N H' S x) ∧ SqF K H' a (ns.map V.int)) ?_ ?_ ?_
    · exact ⟨_, _, _, _, _, _, [], rfl, gS, rfl, (fun x h => by cases h), hS1⟩
    · rintro i σ' H' hi ⟨x2, x3, x4, x5, x6, x7, xs, rfl, gS', hxl, hE, hS'⟩
      have hi4 : i < 4 := by omega
      repeat' (tm_at "rs")
      rename_i b Ha nb sa ba q p m us rs Hb np gq gp hr hg kb bb Hc kc gc
      have pS : p ≠ S := fun e => by rw [e, sa _ _ gS'] at np; cases np
      have Sb : S ≠ b := ne_of_none gS' nb
      have sab : Sm H' Hb := fun x o h => kb x o (ne_of_none h nb) (sa _ _ h)
      have gSb := sab _ _ gS'
      refine ⟨_, _, _, _, _, _, _, rfl, gc, by rw [List.length_append, hxl]; rfl, fun x hx => ?_, (hS'.sm sab).kp gSb kc⟩
      rcases List.mem_append.mp hx with h | h
      · exact ((hE x h).sm sab).kp gSb kc
      · rw [List.mem_singleton.mp h]
        exact ⟨q, p, m, us, rs, rfl, Tk.kp gSb kc _ _ gq, kc _ _ pS gp, hr.tk (Tk.kp gSb kc), hg, pS⟩
    · rintro σ' H' ⟨x2, x3, x4, x5, x6, x7, xs, rfl, gS', hxl, hE, hS'⟩
      have ln : 1 ≤ xs.length ∧ xs.length ≤ 4 := by omega
      repeat' (tm_at "rs")
      rename_i c1 Hc1 nc1 sc1 gc1 c2 Hc2 nc2 sc2 gc2
      have hE2 : ∀ x ∈ xs ++ cutV xs none (some 1), E5 Hc2 x := fun x hx => by
        have hm : x ∈ xs := by
          rcases List.mem_append.mp hx with h | h
          · exact h
          · rw [cut_hi (by decide)] at h
            exact List.mem_of_mem_take h
        exact (hE x hm).e.sm (sc1.trans sc2)
      generalize xs ++ cutV xs none (some 1) = ys at *
      refine loopL (xs := ys) (fun i σ' H' => ∃ (x2 x3 x4 x5 x6 x7 : Option V), σ' = [some (.ref a), some (.ref S), x2, x3, x4, x5, x6, x7] ∧ Sm Hc2 H') ?_ ?_ ?_ ?_
      · exact ⟨_, _, _, _, _, _, rfl, Same.refl _⟩
      · rintro i σ' H' hi ⟨x2, x3, x4, x5, x6, x7, rfl, hs⟩
        exact sq_of (hs _ _ gc2)
      · rintro i x σ' H' hx ⟨x2, x3, x4, x5, x6, x7, rfl, hs⟩
        obtain ⟨t, p, m, us, rs, rfl, ht, hp, hR, hg⟩ := (hE2 x (List.mem_of_getElem? hx)).sm hs
        have ho := hg.ok
        have hm5 := hg.b5
        have hl14 := hg.len
        repeat' (tm_at "rs")
        refine mk_prog SC_Program hp hR hg (fun P H1 nP s1 hP => ?_)
        have hp1 := s1 _ _ hp
        have hR1 := hR.tk (Tk.sm s1)
        repeat' (tm_at "rs")
        refine call_lawText05 hp1 hR1 ho (by omega) (by omega) (fun H2 s2 => ?_)
        repeat' (tm_at "rs")
        refine call_showProgram (hP.sm s2) (by omega) ho (by omega) (fun H3 s3 => ?_)
        have s13 := s2.trans s3
        repeat' (tm_at "rs")
        · rename_i hh; exact absurd rfl hh
        refine str_prog (hP.sm s13) SC_Program (by omega) ho (by omega) (fun H4 s4 => ?_)
        have s14 := s13.trans s4
        repeat' (tm_at "rs")
        · rename_i hh; exact absurd rfl hh
        refine call_showProgram (hP.sm s14) (by omega) ho (by omega) (fun H5 s5 => ?_)
        have s15 := s14.trans s5
        repeat' (tm_at "rs")
        · rename_i hh; exact absurd rfl hh
        refine call_readProgram hg (fun u1 H6 s6 hu1 => ?_)
        have s16 := s15.trans s6
        repeat' (tm_at "rs")
        refine call_showProgram (hP.sm s16) (by omega) ho (by omega) (fun H7 s7 => ?_)
        repeat' (tm_at "rs")
        refine call_readProgram hg (fun u2 H8 s8 hu2 => ?_)
        have s68 := s7.trans s8
        have s18 := s16.trans s68
        repeat' (tm_at "rs")
        rename_i T H9 n9 s9 g9
        have hall : ∀ x ∈ [u1, u2], PrgAt K H9 x m rs := fun x hx => by
          simp only [List.mem_cons, List.not_mem_nil, or_false] at hx
          rcases hx with rfl | rfl
          · exact hu1.sm (s68.trans s9)
          · exact hu2.sm s9
        have hP9 := hP.sm (s18.trans s9)
        have hp9 := (s18.trans s9) _ _ hp1
        have hR9 := hR1.tk (Tk.sm (s18.trans s9))
        have s09 : Sm Hc2 H9 := hs.trans (s1.trans (s18.trans s9))
        refine loopT (xs := [u1, u2]) (fun j σ2 H' => ∃ (xl : Option V), σ2 = [some (.ref a), some (.ref S), x2, some (.int (m : Nat)), some (.ref p), some (.ref P), some (.str (pgT m rs)), xl] ∧ Sm H9 H') ?_ ?_ ?_ ?_
        · exact ⟨_, rfl, Same.refl _⟩
        · rintro j σ2 H' hj ⟨xl, rfl, h2⟩
          exact st_of (h2 _ _ g9)
        · rintro j x σ2 H' hx ⟨xl, rfl, h2⟩
          have hxp := (hall x (List.mem_of_getElem? hx)).sm h2
          have hP' := hP9.sm h2
          have hp' := h2 _ _ hp9
          have hR' := hR9.tk (Tk.sm h2)
          obtain ⟨px, _, _, _, _, rfl, _⟩ := id hxp
          repeat' (tm_at "rs")
          refine ne_prog SC_Program hxp hP' (fun Ha sa => ?_)
          rw [show (!decide (m = m ∧ rs = rs)) = false by simp]
          have hxa := hxp.sm sa
          have hpa := sa _ _ hp'
          have hRa := hR'.tk (Tk.sm sa)
          repeat' (tm_at "rs")
          · rename_i hh; exact absurd rfl hh
          rename_i hm1 t1 v1 ht1 hv1 t2 Hb2 nb2 sb2 gb2
          refine w_neRows (sb2 _ _ ht1) (hv1.tk (Tk.sm sb2)) gb2 (hRa.tk (Tk.sm sb2)) ?_
          have hxb := hxa.sm sb2
          repeat' (tm_at "rs")
          rename_i t3 v3 ht3 hv3
          refine call_lawWhole ht3 hv3 (by omega) (fun Hd sd => ?_)
          repeat' (tm_at "rs")
          exact ⟨_, rfl, h2.trans (sa.trans (sb2.trans sd))⟩
        · rintro σ2 H' ⟨xl, rfl, h2⟩
          repeat' (tm_at "rs")
          exact ⟨_, _, _, _, _, _, rfl, s09.trans h2⟩
      · rintro σ' H' ⟨x2, x3, x4, x5, x6, x7, rfl, hs⟩
        repeat' (tm_at "rs")
        exact k _
end
theorem all_mk {l : PySem.W.OpenLaw} {w : World} {K : PySem.W.Frag} {h : Heap} {mg : Str → Option Value} {fa : Addr} (X : K.In h) (G : h.Ns mainGlobals mg) (hfa : mg "law" = some (.ref fa))
    {f0 : Addr} {od0 an0 : Option Addr} {sl0 : Array (Option Value)} {oc0 kV0 dc0 pm0 cd0 ct0 : Value}
    {f1 : Addr} {od1 an1 : Option Addr} {sl1 : Array (Option Value)} {oc1 kV1 dc1 pm1 cd1 ct1 : Value}
    {f2 : Addr} {od2 an2 : Option Addr} {sl2 : Array (Option Value)} {oc2 kV2 dc2 pm2 cd2 ct2 : Value}
    {f3 : Addr} {od3 an3 : Option Addr} {sl3 : Array (Option Value)} {oc3 kV3 dc3 pm3 cd3 ct3 : Value}
    {f4 : Addr} {od4 an4 : Option Addr} {sl4 : Array (Option Value)} {oc4 kV4 dc4 pm4 cd4 ct4 : Value}
    {f5 : Addr} {od5 an5 : Option Addr} {sl5 : Array (Option Value)} {oc5 kV5 dc5 pm5 cd5 ct5 : Value}
    {f6 : Addr} {od6 an6 : Option Addr} {sl6 : Array (Option Value)} {oc6 kV6 dc6 pm6 cd6 ct6 : Value}
    {f7 : Addr} {od7 an7 : Option Addr} {sl7 : Array (Option Value)} {oc7 kV7 dc7 pm7 cd7 ct7 : Value}
    {f8 : Addr} {od8 an8 : Option Addr} {sl8 : Array (Option Value)} {oc8 kV8 dc8 pm8 cd8 ct8 : Value}
    {f9 : Addr} {od9 an9 : Option Addr} {sl9 : Array (Option Value)} {oc9 kV9 dc9 pm9 cd9 ct9 : Value}
    {f10 : Addr} {od10 an10 : Option Addr} {sl10 : Array (Option Value)} {oc10 kV10 dc10 pm10 cd10 ct10 : Value}
    {f11 : Addr} {od11 an11 : Option Addr} {sl11 : Array (Option Value)} {oc11 kV11 dc11 pm11 cd11 ct11 : Value}
    {f12 : Addr} {od12 an12 : Option Addr} {sl12 : Array (Option Value)} {oc12 kV12 dc12 pm12 cd12 ct12 : Value}
    {f13 : Addr} {od13 an13 : Option Addr} {sl13 : Array (Option Value)} {oc13 kV13 dc13 pm13 cd13 ct13 : Value}
    {f14 : Addr} {od14 an14 : Option Addr} {sl14 : Array (Option Value)} {oc14 kV14 dc14 pm14 cd14 ct14 : Value}
    {f15 : Addr} {od15 an15 : Option Addr} {sl15 : Array (Option Value)} {oc15 kV15 dc15 pm15 cd15 ct15 : Value}
    {f16 : Addr} {od16 an16 : Option Addr} {sl16 : Array (Option Value)} {oc16 kV16 dc16 pm16 cd16 ct16 : Value}
    {f17 : Addr} {od17 an17 : Option Addr} {sl17 : Array (Option Value)} {oc17 kV17 dc17 pm17 cd17 ct17 : Value}
    {f18 : Addr} {od18 an18 : Option Addr} {sl18 : Array (Option Value)} {oc18 kV18 dc18 pm18 cd18 ct18 : Value}
    {f19 : Addr} {od19 an19 : Option Addr} {sl19 : Array (Option Value)} {oc19 kV19 dc19 pm19 cd19 ct19 : Value}
    {f20 : Addr} {od20 an20 : Option Addr} {sl20 : Array (Option Value)} {oc20 kV20 dc20 pm20 cd20 ct20 : Value}
    {f21 : Addr} {od21 an21 : Option Addr} {sl21 : Array (Option Value)} {oc21 kV21 dc21 pm21 cd21 ct21 : Value}
    {f22 : Addr} {od22 an22 : Option Addr} {sl22 : Array (Option Value)} {oc22 kV22 dc22 pm22 cd22 ct22 : Value}
    {C_Program : Addr}
    {a_SHAPES : Addr} {es_SHAPES : Array DictEntry} {n_SHAPES : Nat} {tt_SHAPES_0 : Addr} {to_SHAPES_0 : Option Addr} {ti_SHAPES_0 : Array Value} {tn_SHAPES_0 : Nat} {ts_SHAPES_0 : Array (Option Value)} {tt_SHAPES_1 : Addr} {to_SHAPES_1 : Option Addr} {ti_SHAPES_1 : Array Value} {tn_SHAPES_1 : Nat} {ts_SHAPES_1 : Array (Option Value)} {tt_SHAPES_2 : Addr} {to_SHAPES_2 : Option Addr} {ti_SHAPES_2 : Array Value} {tn_SHAPES_2 : Nat} {ts_SHAPES_2 : Array (Option Value)} {tt_SHAPES_3 : Addr} {to_SHAPES_3 : Option Addr} {ti_SHAPES_3 : Array Value} {tn_SHAPES_3 : Nat} {ts_SHAPES_3 : Array (Option Value)} {tt_SHAPES_4 : Addr} {to_SHAPES_4 : Option Addr} {ti_SHAPES_4 : Array Value} {tn_SHAPES_4 : Nat} {ts_SHAPES_4 : Array (Option Value)}
    {t_MOST_BOXES : Tok}
    {t_MOST_ROWS : Tok}
    {t_FIGURES : Tok}
    (g_Program : PySem.W.nsIn K mainGlobals "Program" = some (some (.ref C_Program)))
    (mk_Program : PySem.W.makesIn K C_Program = true)
    (kc_Program : PySem.W.keepIn K (.ref C_Program) = true)
    (pg_Program : PySem.W.plainGet K C_Program Str.empty = true)
    (hd_Program : PySem.W.hasDictIn K C_Program = true)
    (po_Program : PySem.W.plainOver K C_Program = true)
    (sa_Program : PySem.W.findIn K (.ref C_Program) "__setattr__" = some (some (.builtin "object.__setattr__")))
    (o1_Program : PySem.W.findIn K (.ref C_Program) "__ne__" = some (some (.builtin "object.__ne__")))
    (o2_Program : PySem.W.mroIn K C_Program (.type "object") = some true)
    (o3_Program : PySem.W.findIn K (.ref C_Program) "__class__" = some (some (.builtin "object.__class__")))
    (o6_Program : PySem.W.kitOne K (.ref C_Program) (.ref C_Program) = some true)
    (na_Program_boxes : PySem.W.findIn K (.ref C_Program) "boxes" = some none)
    (na_Program_rows : PySem.W.findIn K (.ref C_Program) "rows" = some none)
    (o4 : PySem.W.specialIn K (.builtin "object.__class__") "__get__" = some (some (.builtin "getset_descriptor.__get__")))
    (o5 : PySem.W.takesIn K (.builtin "object.__class__") = some true)
    (a0 : PySem.W.nsIn K mainGlobals "is_whole" = some (some (.ref f0)))
    (l0 : K.lookup f0 = some ⟨oc0, od0, .func (PySem.W.fnOf "is_whole" "is_whole" (defArgs s_f_is_whole) (defBody s_f_is_whole) (defScope s_f_is_whole) .none kV0 dc0 pm0 an0 cd0 ct0), sl0⟩)
    (c0 : PySem.W.codeIn K cd0 "is_whole" = true)
    (k0 : PySem.W.keepIn K (.ref f0) = true)
    (a1 : PySem.W.nsIn K mainGlobals "is_formed" = some (some (.ref f1)))
    (l1 : K.lookup f1 = some ⟨oc1, od1, .func (PySem.W.fnOf "is_formed" "is_formed" (defArgs s_f_is_formed) (defBody s_f_is_formed) (defScope s_f_is_formed) .none kV1 dc1 pm1 an1 cd1 ct1), sl1⟩)
    (c1 : PySem.W.codeIn K cd1 "is_formed" = true)
    (k1 : PySem.W.keepIn K (.ref f1) = true)
    (a2 : PySem.W.nsIn K mainGlobals "check_row" = some (some (.ref f2)))
    (l2 : K.lookup f2 = some ⟨oc2, od2, .func (PySem.W.fnOf "check_row" "check_row" (defArgs s_f_check_row) (defBody s_f_check_row) (defScope s_f_check_row) .none kV2 dc2 pm2 an2 cd2 ct2), sl2⟩)
    (c2 : PySem.W.codeIn K cd2 "check_row" = true)
    (k2 : PySem.W.keepIn K (.ref f2) = true)
    (a3 : PySem.W.nsIn K mainGlobals "check" = some (some (.ref f3)))
    (l3 : K.lookup f3 = some ⟨oc3, od3, .func (PySem.W.fnOf "check" "check" (defArgs s_f_check) (defBody s_f_check) (defScope s_f_check) .none kV3 dc3 pm3 an3 cd3 ct3), sl3⟩)
    (c3 : PySem.W.codeIn K cd3 "check" = true)
    (k3 : PySem.W.keepIn K (.ref f3) = true)
    (a4 : PySem.W.findIn K (.ref C_Program) "__init__" = some (some (.ref f4)))
    (i4 : PySem.W.isFn K (.ref f4) = true)
    (l4 : K.lookup f4 = some ⟨oc4, od4, .func (PySem.W.fnOf "__init__" "Program.__init__" (defArgs s_f_Program__init) (defBody s_f_Program__init) (defScope s_f_Program__init) .none kV4 dc4 pm4 an4 cd4 ct4), sl4⟩)
    (c4 : PySem.W.codeIn K cd4 "Program.__init__" = true)
    (k4 : PySem.W.keepIn K (.ref f4) = true)
    (a5 : PySem.W.nsIn K mainGlobals "_law_text" = some (some (.ref f5)))
    (l5 : K.lookup f5 = some ⟨oc5, od5, .func (PySem.W.fnOf "_law_text" "_law_text" (defArgs s_f_law_text) (defBody s_f_law_text) (defScope s_f_law_text) .none kV5 dc5 pm5 an5 cd5 ct5), sl5⟩)
    (c5 : PySem.W.codeIn K cd5 "_law_text" = true)
    (k5 : PySem.W.keepIn K (.ref f5) = true)
    (a6 : PySem.W.nsIn K mainGlobals "_law_take" = some (some (.ref f6)))
    (l6 : K.lookup f6 = some ⟨oc6, od6, .func (PySem.W.fnOf "_law_take" "_law_take" (defArgs s_f_law_take) (defBody s_f_law_take) (defScope s_f_law_take) .none kV6 dc6 pm6 an6 cd6 ct6), sl6⟩)
    (c6 : PySem.W.codeIn K cd6 "_law_take" = true)
    (k6 : PySem.W.keepIn K (.ref f6) = true)
    (a7 : PySem.W.nsIn K mainGlobals "_law_piece" = some (some (.ref f7)))
    (l7 : K.lookup f7 = some ⟨oc7, od7, .func (PySem.W.fnOf "_law_piece" "_law_piece" (defArgs s_f_law_piece) (defBody s_f_law_piece) (defScope s_f_law_piece) .none kV7 dc7 pm7 an7 cd7 ct7), sl7⟩)
    (c7 : PySem.W.codeIn K cd7 "_law_piece" = true)
    (k7 : PySem.W.keepIn K (.ref f7) = true)
    (a8 : PySem.W.nsIn K mainGlobals "_law_ending_rows" = some (some (.ref f8)))
    (l8 : K.lookup f8 = some ⟨oc8, od8, .func (PySem.W.fnOf "_law_ending_rows" "_law_ending_rows" (defArgs s_f_law_ending_rows) (defBody s_f_law_ending_rows) (defScope s_f_law_ending_rows) .none kV8 dc8 pm8 an8 cd8 ct8), sl8⟩)
    (c8 : PySem.W.codeIn K cd8 "_law_ending_rows" = true)
    (k8 : PySem.W.keepIn K (.ref f8) = true)
    (a9 : PySem.W.nsIn K mainGlobals "_law_row" = some (some (.ref f9)))
    (l9 : K.lookup f9 = some ⟨oc9, od9, .func (PySem.W.fnOf "_law_row" "_law_row" (defArgs s_f_law_row) (defBody s_f_law_row) (defScope s_f_law_row) .none kV9 dc9 pm9 an9 cd9 ct9), sl9⟩)
    (c9 : PySem.W.codeIn K cd9 "_law_row" = true)
    (k9 : PySem.W.keepIn K (.ref f9) = true)
    (a10 : PySem.W.nsIn K mainGlobals "_law_any_rows" = some (some (.ref f10)))
    (l10 : K.lookup f10 = some ⟨oc10, od10, .func (PySem.W.fnOf "_law_any_rows" "_law_any_rows" (defArgs s_f_law_any_rows) (defBody s_f_law_any_rows) (defScope s_f_law_any_rows) .none kV10 dc10 pm10 an10 cd10 ct10), sl10⟩)
    (c10 : PySem.W.codeIn K cd10 "_law_any_rows" = true)
    (k10 : PySem.W.keepIn K (.ref f10) = true)
    (a11 : PySem.W.nsIn K mainGlobals "_law_some_program" = some (some (.ref f11)))
    (l11 : K.lookup f11 = some ⟨oc11, od11, .func (PySem.W.fnOf "_law_some_program" "_law_some_program" (defArgs s_f_law_some_program) (defBody s_f_law_some_program) (defScope s_f_law_some_program) .none kV11 dc11 pm11 an11 cd11 ct11), sl11⟩)
    (c11 : PySem.W.codeIn K cd11 "_law_some_program" = true)
    (k11 : PySem.W.keepIn K (.ref f11) = true)
    (a12 : PySem.W.nsIn K mainGlobals "number_in" = some (some (.ref f12)))
    (l12 : K.lookup f12 = some ⟨oc12, od12, .func (PySem.W.fnOf "number_in" "number_in" (defArgs s_f_number_in) (defBody s_f_number_in) (defScope s_f_number_in) .none kV12 dc12 pm12 an12 cd12 ct12), sl12⟩)
    (c12 : PySem.W.codeIn K cd12 "number_in" = true)
    (k12 : PySem.W.keepIn K (.ref f12) = true)
    (a13 : PySem.W.nsIn K mainGlobals "boxes_in" = some (some (.ref f13)))
    (l13 : K.lookup f13 = some ⟨oc13, od13, .func (PySem.W.fnOf "boxes_in" "boxes_in" (defArgs s_f_boxes_in) (defBody s_f_boxes_in) (defScope s_f_boxes_in) .none kV13 dc13 pm13 an13 cd13 ct13), sl13⟩)
    (c13 : PySem.W.codeIn K cd13 "boxes_in" = true)
    (k13 : PySem.W.keepIn K (.ref f13) = true)
    (a14 : PySem.W.nsIn K mainGlobals "row_in" = some (some (.ref f14)))
    (l14 : K.lookup f14 = some ⟨oc14, od14, .func (PySem.W.fnOf "row_in" "row_in" (defArgs s_f_row_in) (defBody s_f_row_in) (defScope s_f_row_in) .none kV14 dc14 pm14 an14 cd14 ct14), sl14⟩)
    (c14 : PySem.W.codeIn K cd14 "row_in" = true)
    (k14 : PySem.W.keepIn K (.ref f14) = true)
    (a15 : PySem.W.nsIn K mainGlobals "read_program" = some (some (.ref f15)))
    (l15 : K.lookup f15 = some ⟨oc15, od15, .func (PySem.W.fnOf "read_program" "read_program" (defArgs s_f_read_program) (defBody s_f_read_program) (defScope s_f_read_program) .none kV15 dc15 pm15 an15 cd15 ct15), sl15⟩)
    (c15 : PySem.W.codeIn K cd15 "read_program" = true)
    (k15 : PySem.W.keepIn K (.ref f15) = true)
    (a16 : PySem.W.nsIn K mainGlobals "_law_box" = some (some (.ref f16)))
    (l16 : K.lookup f16 = some ⟨oc16, od16, .func (PySem.W.fnOf "_law_box" "_law_box" (defArgs s_f_law_box) (defBody s_f_law_box) (defScope s_f_law_box) .none kV16 dc16 pm16 an16 cd16 ct16), sl16⟩)
    (c16 : PySem.W.codeIn K cd16 "_law_box" = true)
    (k16 : PySem.W.keepIn K (.ref f16) = true)
    (a17 : PySem.W.nsIn K mainGlobals "lines_of" = some (some (.ref f17)))
    (l17 : K.lookup f17 = some ⟨oc17, od17, .func (PySem.W.fnOf "lines_of" "lines_of" (defArgs s_f_lines_of) (defBody s_f_lines_of) (defScope s_f_lines_of) .none kV17 dc17 pm17 an17 cd17 ct17), sl17⟩)
    (c17 : PySem.W.codeIn K cd17 "lines_of" = true)
    (k17 : PySem.W.keepIn K (.ref f17) = true)
    (a18 : PySem.W.nsIn K mainGlobals "show_program" = some (some (.ref f18)))
    (l18 : K.lookup f18 = some ⟨oc18, od18, .func (PySem.W.fnOf "show_program" "show_program" (defArgs s_f_show_program) (defBody s_f_show_program) (defScope s_f_show_program) .none kV18 dc18 pm18 an18 cd18 ct18), sl18⟩)
    (c18 : PySem.W.codeIn K cd18 "show_program" = true)
    (k18 : PySem.W.keepIn K (.ref f18) = true)
    (a19 : PySem.W.nsIn K mainGlobals "_law_whole" = some (some (.ref f19)))
    (l19 : K.lookup f19 = some ⟨oc19, od19, .func (PySem.W.fnOf "_law_whole" "_law_whole" (defArgs s_f_law_whole) (defBody s_f_law_whole) (defScope s_f_law_whole) .none kV19 dc19 pm19 an19 cd19 ct19), sl19⟩)
    (c19 : PySem.W.codeIn K cd19 "_law_whole" = true)
    (k19 : PySem.W.keepIn K (.ref f19) = true)
    (a20 : PySem.W.findIn K (.ref C_Program) "__eq__" = some (some (.ref f20)))
    (i20 : PySem.W.isFn K (.ref f20) = true)
    (l20 : K.lookup f20 = some ⟨oc20, od20, .func (PySem.W.fnOf "__eq__" "Program.__eq__" (defArgs s_f_Program__eq) (defBody s_f_Program__eq) (defScope s_f_Program__eq) .none kV20 dc20 pm20 an20 cd20 ct20), sl20⟩)
    (c20 : PySem.W.codeIn K cd20 "Program.__eq__" = true)
    (k20 : PySem.W.keepIn K (.ref f20) = true)
    (a21 : PySem.W.findIn K (.ref C_Program) "__str__" = some (some (.ref f21)))
    (i21 : PySem.W.isFn K (.ref f21) = true)
    (l21 : K.lookup f21 = some ⟨oc21, od21, .func (PySem.W.fnOf "__str__" "Program.__str__" (defArgs s_f_Program__str) (defBody s_f_Program__str) (defScope s_f_Program__str) .none kV21 dc21 pm21 an21 cd21 ct21), sl21⟩)
    (c21 : PySem.W.codeIn K cd21 "Program.__str__" = true)
    (k21 : PySem.W.keepIn K (.ref f21) = true)
    (a22 : PySem.W.nsIn K mainGlobals "law" = some (some (.ref f22)))
    (l22 : K.lookup f22 = some ⟨oc22, od22, .func (PySem.W.fnOf "law" "law" (defArgs s_f_law) (defBody s_f_law) (defScope s_f_law) .none kV22 dc22 pm22 an22 cd22 ct22), sl22⟩)
    (c22 : PySem.W.codeIn K cd22 "law" = true)
    (k22 : PySem.W.keepIn K (.ref f22) = true)
    (z_isinstance : PySem.W.nsIn K mainGlobals "isinstance" = some none)
    (z_int : PySem.W.nsIn K mainGlobals "int" = some none)
    (z_bool : PySem.W.nsIn K mainGlobals "bool" = some none)
    (z_all : PySem.W.nsIn K mainGlobals "all" = some none)
    (z_len : PySem.W.nsIn K mainGlobals "len" = some none)
    (z_zip : PySem.W.nsIn K mainGlobals "zip" = some none)
    (z_enumerate : PySem.W.nsIn K mainGlobals "enumerate" = some none)
    (z_tuple : PySem.W.nsIn K mainGlobals "tuple" = some none)
    (z_str : PySem.W.nsIn K mainGlobals "str" = some none)
    (z_range : PySem.W.nsIn K mainGlobals "range" = some none)
    (z_max : PySem.W.nsIn K mainGlobals "max" = some none)
    (z_min : PySem.W.nsIn K mainGlobals "min" = some none)
    (y_SHAPES : PySem.W.nsIn K mainGlobals "SHAPES" = some (some (.ref a_SHAPES)))
    (ld_SHAPES : K.lookup a_SHAPES = some ⟨.type "dict", none, .dict es_SHAPES n_SHAPES, #[]⟩)
    (kl_SHAPES : PySem.W.KeysLit w.params es_SHAPES.toList)
    (sm_SHAPES : (a_SHAPES == sysModules) = false)
    (v_SHAPES_0 : PySem.W.nsIn K a_SHAPES "raise" = some (some (.ref tt_SHAPES_0)))
    (lt_SHAPES_0 : K.lookup tt_SHAPES_0 = some ⟨.type "tuple", to_SHAPES_0, .seq ti_SHAPES_0 tn_SHAPES_0, ts_SHAPES_0⟩)
    (vt_SHAPES_0 : ti_SHAPES_0.size ≤ sizeLine ∧ Vals ([Str.ofString "box"].map V.str) ti_SHAPES_0.toList)
    (v_SHAPES_1 : PySem.W.nsIn K a_SHAPES "lower" = some (some (.ref tt_SHAPES_1)))
    (lt_SHAPES_1 : K.lookup tt_SHAPES_1 = some ⟨.type "tuple", to_SHAPES_1, .seq ti_SHAPES_1 tn_SHAPES_1, ts_SHAPES_1⟩)
    (vt_SHAPES_1 : ti_SHAPES_1.size ≤ sizeLine ∧ Vals ([Str.ofString "box"].map V.str) ti_SHAPES_1.toList)
    (v_SHAPES_2 : PySem.W.nsIn K a_SHAPES "if" = some (some (.ref tt_SHAPES_2)))
    (lt_SHAPES_2 : K.lookup tt_SHAPES_2 = some ⟨.type "tuple", to_SHAPES_2, .seq ti_SHAPES_2 tn_SHAPES_2, ts_SHAPES_2⟩)
    (vt_SHAPES_2 : ti_SHAPES_2.size ≤ sizeLine ∧ Vals ([Str.ofString "box", Str.ofString "goal"].map V.str) ti_SHAPES_2.toList)
    (v_SHAPES_3 : PySem.W.nsIn K a_SHAPES "go" = some (some (.ref tt_SHAPES_3)))
    (lt_SHAPES_3 : K.lookup tt_SHAPES_3 = some ⟨.type "tuple", to_SHAPES_3, .seq ti_SHAPES_3 tn_SHAPES_3, ts_SHAPES_3⟩)
    (vt_SHAPES_3 : ti_SHAPES_3.size ≤ sizeLine ∧ Vals ([Str.ofString "goal"].map V.str) ti_SHAPES_3.toList)
    (v_SHAPES_4 : PySem.W.nsIn K a_SHAPES "stop" = some (some (.ref tt_SHAPES_4)))
    (lt_SHAPES_4 : K.lookup tt_SHAPES_4 = some ⟨.type "tuple", to_SHAPES_4, .seq ti_SHAPES_4 tn_SHAPES_4, ts_SHAPES_4⟩)
    (vt_SHAPES_4 : ti_SHAPES_4.size ≤ sizeLine ∧ Vals ([].map V.str) ti_SHAPES_4.toList)
    (y_MOST_BOXES : PySem.W.nsIn K mainGlobals "MOST_BOXES" = some (some (.int 5 t_MOST_BOXES)))
    (y_MOST_ROWS : PySem.W.nsIn K mainGlobals "MOST_ROWS" = some (some (.int 14 t_MOST_ROWS)))
    (y_FIGURES : PySem.W.nsIn K mainGlobals "FIGURES" = some (some (.str "0123456789" t_FIGURES)))
    : ∃ fd : FuncData, (∀ (s : Shared) (v : Value), BindsTo s fd ⟨[v], []⟩ [("script", v)]) ∧ ∀ base : Heap, K.In base → base.Ns mainGlobals mg → FnG l.prog w K mg base CX0 8 fa fd ["script"] (sp_f_law K) := by
  have e := hfa.symm.trans (PySem.W.mg_of X G a22)
  cases e
  have m_isinstance : mg "isinstance" = none := PySem.W.mg_none_of X G z_isinstance
  have m_int : mg "int" = none := PySem.W.mg_none_of X G z_int
  have m_bool : mg "bool" = none := PySem.W.mg_none_of X G z_bool
  have m_all : mg "all" = none := PySem.W.mg_none_of X G z_all
  have m_len : mg "len" = none := PySem.W.mg_none_of X G z_len
  have m_zip : mg "zip" = none := PySem.W.mg_none_of X G z_zip
  have m_enumerate : mg "enumerate" = none := PySem.W.mg_none_of X G z_enumerate
  have m_tuple : mg "tuple" = none := PySem.W.mg_none_of X G z_tuple
  have m_str : mg "str" = none := PySem.W.mg_none_of X G z_str
  have m_range : mg "range" = none := PySem.W.mg_none_of X G z_range
  have m_max : mg "max" = none := PySem.W.mg_none_of X G z_max
  have m_min : mg "min" = none := PySem.W.mg_none_of X G z_min
  have c_SHAPES := PySem.W.mg_of X G y_SHAPES
  have d_SHAPES : KDt K w a_SHAPES [(Str.ofString "raise", [Str.ofString "box"]), (Str.ofString "lower", [Str.ofString "box"]), (Str.ofString "if", [Str.ofString "box", Str.ofString "goal"]), (Str.ofString "go", [Str.ofString "goal"]), (Str.ofString "stop", [])] := by
    refine ⟨sm_SHAPES, fun z hz => ?_⟩
    rcases List.mem_cons.mp hz with rfl | hz
    · exact ⟨tt_SHAPES_0, ⟨_, _, _, ld_SHAPES, kl_SHAPES, v_SHAPES_0, rfl⟩, fun H => .inr ⟨_, _, _, lt_SHAPES_0, rfl, rfl, vt_SHAPES_0.1, vt_SHAPES_0.2⟩⟩
    rcases List.mem_cons.mp hz with rfl | hz
    · exact ⟨tt_SHAPES_1, ⟨_, _, _, ld_SHAPES, kl_SHAPES, v_SHAPES_1, rfl⟩, fun H => .inr ⟨_, _, _, lt_SHAPES_1, rfl, rfl, vt_SHAPES_1.1, vt_SHAPES_1.2⟩⟩
    rcases List.mem_cons.mp hz with rfl | hz
    · exact ⟨tt_SHAPES_2, ⟨_, _, _, ld_SHAPES, kl_SHAPES, v_SHAPES_2, rfl⟩, fun H => .inr ⟨_, _, _, lt_SHAPES_2, rfl, rfl, vt_SHAPES_2.1, vt_SHAPES_2.2⟩⟩
    rcases List.mem_cons.mp hz with rfl | hz
    · exact ⟨tt_SHAPES_3, ⟨_, _, _, ld_SHAPES, kl_SHAPES, v_SHAPES_3, rfl⟩, fun H => .inr ⟨_, _, _, lt_SHAPES_3, rfl, rfl, vt_SHAPES_3.1, vt_SHAPES_3.2⟩⟩
    rcases List.mem_cons.mp hz with rfl | hz
    · exact ⟨tt_SHAPES_4, ⟨_, _, _, ld_SHAPES, kl_SHAPES, v_SHAPES_4, rfl⟩, fun H => .inr ⟨_, _, _, lt_SHAPES_4, rfl, rfl, vt_SHAPES_4.1, vt_SHAPES_4.2⟩⟩
    cases hz
  have c_MOST_BOXES := PySem.W.mg_of X G y_MOST_BOXES
  have c_MOST_ROWS := PySem.W.mg_of X G y_MOST_ROWS
  have c_FIGURES := PySem.W.mg_of X G y_FIGURES
  have SC_Program : ClsN K "Program" C_Program ["boxes", "rows"] := ⟨⟨⟨pg_Program, hd_Program, po_Program, sa_Program⟩, by
    intro f hf
    rcases List.mem_cons.mp hf with rfl | hf
    · exact na_Program_boxes
    rcases List.mem_cons.mp hf with rfl | hf
    · exact na_Program_rows
    cases hf⟩, g_Program⟩
  have OC_Program : ClsO K C_Program := ⟨o1_Program, o2_Program, o3_Program, o4, o5, o6_Program⟩
  have n_Program := PySem.W.mg_of X G g_Program
  have F0 := fun_mk (st := s_f_is_whole) l0 c0 k0
  have F1 := fun_mk (st := s_f_is_formed) l1 c1 k1
  have F2 := fun_mk (st := s_f_check_row) l2 c2 k2
  have F3 := fun_mk (st := s_f_check) l3 c3 k3
  have F4 := fun_mk (st := s_f_Program__init) l4 c4 k4
  have F5 := fun_mk (st := s_f_law_text) l5 c5 k5
  have F6 := fun_mk (st := s_f_law_take) l6 c6 k6
  have F7 := fun_mk (st := s_f_law_piece) l7 c7 k7
  have F8 := fun_mk (st := s_f_law_ending_rows) l8 c8 k8
  have F9 := fun_mk (st := s_f_law_row) l9 c9 k9
  have F10 := fun_mk (st := s_f_law_any_rows) l10 c10 k10
  have F11 := fun_mk (st := s_f_law_some_program) l11 c11 k11
  have F12 := fun_mk (st := s_f_number_in) l12 c12 k12
  have F13 := fun_mk (st := s_f_boxes_in) l13 c13 k13
  have F14 := fun_mk (st := s_f_row_in) l14 c14 k14
  have F15 := fun_mk (st := s_f_read_program) l15 c15 k15
  have F16 := fun_mk (st := s_f_law_box) l16 c16 k16
  have F17 := fun_mk (st := s_f_lines_of) l17 c17 k17
  have F18 := fun_mk (st := s_f_show_program) l18 c18 k18
  have F19 := fun_mk (st := s_f_law_whole) l19 c19 k19
  have F20 := fun_mk (st := s_f_Program__eq) l20 c20 k20
  have F21 := fun_mk (st := s_f_Program__str) l21 c21 k21
  have F22 := fun_mk (st := s_f_law) l22 c22 k22
  refine ⟨PySem.W.fnOf "law" "law" (defArgs s_f_law) (defBody s_f_law) (defScope s_f_law) .none kV22 dc22 pm22 an22 cd22 ct22, fun s v => .of_eq rfl, fun base _ _ => ?_⟩
  have O0 : FnG l.prog w K mg base CX0 1 f0 _ ["thing"] (sp_f_is_whole K) := ok_f_is_whole F0 m_isinstance m_int m_bool
  have D_f_is_whole : Def l.prog w K mg base CX0 "is_whole" 1 ["thing"] (sp_f_is_whole K) := ⟨f0, _, PySem.W.mg_of X G a0, O0, k0, F0.binds (ps := ["thing"]) fun _ _ _ _ _ _ us hl => match us, hl with | [_], _ => rfl⟩
  have O1 : FnG l.prog w K mg base CX0 2 f1 _ ["row"] (sp_f_is_formed K) := ok_f_is_formed F1 D_f_is_whole m_all m_len c_SHAPES d_SHAPES
  have D_f_is_formed : Def l.prog w K mg base CX0 "is_formed" 2 ["row"] (sp_f_is_formed K) := ⟨f1, _, PySem.W.mg_of X G a1, O1, k1, F1.binds (ps := ["row"]) fun _ _ _ _ _ _ us hl => match us, hl with | [_], _ => rfl⟩
  have O2 : FnG l.prog w K mg base CX0 3 f2 _ ["row", "boxes", "many", "at"] (sp_f_check_row K) := ok_f_check_row F2 D_f_is_formed m_zip m_int c_SHAPES d_SHAPES
  have D_f_check_row : Def l.prog w K mg base CX0 "check_row" 3 ["row", "boxes", "many", "at"] (sp_f_check_row K) := ⟨f2, _, PySem.W.mg_of X G a2, O2, k2, F2.binds (ps := ["row", "boxes", "many", "at"]) fun _ _ _ _ _ _ us hl => match us, hl with | [_, _, _, _], _ => rfl⟩
  have O3 : FnG l.prog w K mg base CX0 4 f3 _ ["boxes", "rows"] (sp_f_check K) := ok_f_check F3 D_f_check_row m_enumerate m_len c_MOST_BOXES c_MOST_ROWS
  have D_f_check : Def l.prog w K mg base CX0 "check" 4 ["boxes", "rows"] (sp_f_check K) := ⟨f3, _, PySem.W.mg_of X G a3, O3, k3, F3.binds (ps := ["boxes", "rows"]) fun _ _ _ _ _ _ us hl => match us, hl with | [_, _], _ => rfl⟩
  have O4 : FnG l.prog w K mg base CX0 5 f4 _ ["self", "boxes", "rows"] (sp_f_Program__init K) := ok_f_Program__init F4 D_f_check m_tuple
  have G_Program : DefM l.prog w K mg base CX0 "Program" 5 ["self", "boxes", "rows"] (sp_f_Program__init K) C_Program := ⟨f4, _, PySem.W.mg_of X G g_Program, ⟨mk_Program, a4, i4, kc_Program⟩, O4, F4.binds (ps := ["self", "boxes", "rows"]) fun _ _ _ _ _ _ us hl => match us, hl with | [_, _, _], _ => rfl⟩
  have O5 : FnG l.prog w K mg base CX0 1 f5 _ ["boxes", "rows"] (sp_f_law_text K) := ok_f_law_text F5 m_str
  have D_f_law_text : Def l.prog w K mg base CX0 "_law_text" 1 ["boxes", "rows"] (sp_f_law_text K) := ⟨f5, _, PySem.W.mg_of X G a5, O5, k5, F5.binds (ps := ["boxes", "rows"]) fun _ _ _ _ _ _ us hl => match us, hl with | [_, _], _ => rfl⟩
  have O6 : FnG l.prog w K mg base CX0 1 f6 _ ["box", "wide"] (sp_f_law_take K) := ok_f_law_take F6
  have D_f_law_take : Def l.prog w K mg base CX0 "_law_take" 1 ["box", "wide"] (sp_f_law_take K) := ⟨f6, _, PySem.W.mg_of X G a6, O6, k6, F6.binds (ps := ["box", "wide"]) fun _ _ _ _ _ _ us hl => match us, hl with | [_, _], _ => rfl⟩
  have O7 : FnG l.prog w K mg base CX0 2 f7 _ ["box", "boxes", "at"] (sp_f_law_piece K) := ok_f_law_piece F7 D_f_law_take m_range m_len m_int
  have D_f_law_piece : Def l.prog w K mg base CX0 "_law_piece" 2 ["box", "boxes", "at"] (sp_f_law_piece K) := ⟨f7, _, PySem.W.mg_of X G a7, O7, k7, F7.binds (ps := ["box", "boxes", "at"]) fun _ _ _ _ _ _ us hl => match us, hl with | [_, _, _], _ => rfl⟩
  have O8 : FnG l.prog w K mg base CX0 3 f8 _ ["box", "boxes"] (sp_f_law_ending_rows K) := ok_f_law_ending_rows F8 D_f_law_piece D_f_law_take m_range m_len
  have D_f_law_ending_rows : Def l.prog w K mg base CX0 "_law_ending_rows" 3 ["box", "boxes"] (sp_f_law_ending_rows K) := ⟨f8, _, PySem.W.mg_of X G a8, O8, k8, F8.binds (ps := ["box", "boxes"]) fun _ _ _ _ _ _ us hl => match us, hl with | [_, _], _ => rfl⟩
  have O9 : FnG l.prog w K mg base CX0 2 f9 _ ["box", "boxes", "many"] (sp_f_law_row K) := ok_f_law_row F9 D_f_law_take
  have D_f_law_row : Def l.prog w K mg base CX0 "_law_row" 2 ["box", "boxes", "many"] (sp_f_law_row K) := ⟨f9, _, PySem.W.mg_of X G a9, O9, k9, F9.binds (ps := ["box", "boxes", "many"]) fun _ _ _ _ _ _ us hl => match us, hl with | [_, _, _], _ => rfl⟩
  have O10 : FnG l.prog w K mg base CX0 3 f10 _ ["box", "boxes"] (sp_f_law_any_rows K) := ok_f_law_any_rows F10 D_f_law_take D_f_law_row m_range
  have D_f_law_any_rows : Def l.prog w K mg base CX0 "_law_any_rows" 3 ["box", "boxes"] (sp_f_law_any_rows K) := ⟨f10, _, PySem.W.mg_of X G a10, O10, k10, F10.binds (ps := ["box", "boxes"]) fun _ _ _ _ _ _ us hl => match us, hl with | [_, _], _ => rfl⟩
  have O11 : FnG l.prog w K mg base CX0 4 f11 _ ["box"] (sp_f_law_some_program K) := ok_f_law_some_program F11 D_f_law_take D_f_law_ending_rows D_f_law_any_rows
  have D_f_law_some_program : Def l.prog w K mg base CX0 "_law_some_program" 4 ["box"] (sp_f_law_some_program K) := ⟨f11, _, PySem.W.mg_of X G a11, O11, k11, F11.binds (ps := ["box"]) fun _ _ _ _ _ _ us hl => match us, hl with | [_], _ => rfl⟩
  have O12 : FnG l.prog w K mg base CX0 1 f12 _ ["word", "most"] (sp_f_number_in K) := ok_f_number_in F12 m_int m_len c_FIGURES
  have D_f_number_in : Def l.prog w K mg base CX0 "number_in" 1 ["word", "most"] (sp_f_number_in K) := ⟨f12, _, PySem.W.mg_of X G a12, O12, k12, F12.binds (ps := ["word", "most"]) fun _ _ _ _ _ _ us hl => match us, hl with | [_, _], _ => rfl⟩
  have O13 : FnG l.prog w K mg base CX0 2 f13 _ ["line"] (sp_f_boxes_in K) := ok_f_boxes_in F13 D_f_number_in m_len
  have D_f_boxes_in : Def l.prog w K mg base CX0 "boxes_in" 2 ["line"] (sp_f_boxes_in K) := ⟨f13, _, PySem.W.mg_of X G a13, O13, k13, F13.binds (ps := ["line"]) fun _ _ _ _ _ _ us hl => match us, hl with | [_], _ => rfl⟩
  have O14 : FnG l.prog w K mg base CX0 2 f14 _ ["line"] (sp_f_row_in K) := ok_f_row_in F14 D_f_number_in m_tuple m_len c_SHAPES d_SHAPES
  have D_f_row_in : Def l.prog w K mg base CX0 "row_in" 2 ["line"] (sp_f_row_in K) := ⟨f14, _, PySem.W.mg_of X G a14, O14, k14, F14.binds (ps := ["line"]) fun _ _ _ _ _ _ us hl => match us, hl with | [_], _ => rfl⟩
  have O15 : FnG l.prog w K mg base CX0 7 f15 _ ["text"] (sp_f_read_program K) := ok_f_read_program F15 D_f_boxes_in G_Program SC_Program D_f_row_in m_enumerate
  have D_f_read_program : Def l.prog w K mg base CX0 "read_program" 7 ["text"] (sp_f_read_program K) := ⟨f15, _, PySem.W.mg_of X G a15, O15, k15, F15.binds (ps := ["text"]) fun _ _ _ _ _ _ us hl => match us, hl with | [_], _ => rfl⟩
  have DK_f_read_program_text : DefK l.prog w K mg base CX0 "read_program" 7 ["text"] ["text"] gk_f_read_program_text (sp_f_read_program K) := ⟨f15, _, _, PySem.W.mg_of X G a15, O15, k15, kb_f_read_program_text F15⟩
  have O16 : FnG l.prog w K mg base CX0 1 f16 _ ["script", "k"] (sp_f_law_box K) := ok_f_law_box F16 m_len m_int
  have D_f_law_box : Def l.prog w K mg base CX0 "_law_box" 1 ["script", "k"] (sp_f_law_box K) := ⟨f16, _, PySem.W.mg_of X G a16, O16, k16, F16.binds (ps := ["script", "k"]) fun _ _ _ _ _ _ us hl => match us, hl with | [_, _], _ => rfl⟩
  have O17 : FnG l.prog w K mg base CX0 1 f17 _ ["program"] (sp_f_lines_of K) := ok_f_lines_of F17 m_str
  have D_f_lines_of : Def l.prog w K mg base CX0 "lines_of" 1 ["program"] (sp_f_lines_of K) := ⟨f17, _, PySem.W.mg_of X G a17, O17, k17, F17.binds (ps := ["program"]) fun _ _ _ _ _ _ us hl => match us, hl with | [_], _ => rfl⟩
  have O18 : FnG l.prog w K mg base CX0 2 f18 _ ["program"] (sp_f_show_program K) := ok_f_show_program F18 D_f_lines_of
  have D_f_show_program : Def l.prog w K mg base CX0 "show_program" 2 ["program"] (sp_f_show_program K) := ⟨f18, _, PySem.W.mg_of X G a18, O18, k18, F18.binds (ps := ["program"]) fun _ _ _ _ _ _ us hl => match us, hl with | [_], _ => rfl⟩
  have DK_f_show_program_program : DefK l.prog w K mg base CX0 "show_program" 2 ["program"] ["program"] gk_f_show_program_program (sp_f_show_program K) := ⟨f18, _, _, PySem.W.mg_of X G a18, O18, k18, kb_f_show_program_program F18⟩
  have O19 : FnG l.prog w K mg base CX0 1 f19 _ ["rows"] (sp_f_law_whole K) := ok_f_law_whole F19 m_isinstance m_bool m_int
  have D_f_law_whole : Def l.prog w K mg base CX0 "_law_whole" 1 ["rows"] (sp_f_law_whole K) := ⟨f19, _, PySem.W.mg_of X G a19, O19, k19, F19.binds (ps := ["rows"]) fun _ _ _ _ _ _ us hl => match us, hl with | [_], _ => rfl⟩
  have O20 : FnG l.prog w K mg base CX0 1 f20 _ ["self", "other"] (sp_f_Program__eq K) := ok_f_Program__eq F20 n_Program SC_Program OC_Program m_isinstance
  have M_Program_eq : DefO l.prog w K mg base CX0 C_Program "__eq__" 1 ["self", "other"] (sp_f_Program__eq K) := ⟨f20, _, a20, i20, O20, F20.binds (ps := ["self", "other"]) fun _ _ _ _ _ _ us hl => match us, hl with | [_, _], _ => rfl⟩
  have O21 : FnG l.prog w K mg base CX0 2 f21 _ ["self"] (sp_f_Program__str K) := ok_f_Program__str F21 D_f_lines_of
  have M_Program_str : DefO l.prog w K mg base CX0 C_Program "__str__" 2 ["self"] (sp_f_Program__str K) := ⟨f21, _, a21, i21, O21, F21.binds (ps := ["self"]) fun _ _ _ _ _ _ us hl => match us, hl with | [_], _ => rfl⟩
  exact ok_f_law F22 G_Program SC_Program D_f_law_text D_f_law_some_program D_f_read_program D_f_law_box D_f_show_program D_f_law_whole M_Program_eq OC_Program M_Program_str DK_f_read_program_text DK_f_show_program_program m_range m_max m_min m_len m_str m_tuple
end Rs
open PySem PySem.W PyProof.Rows
set_option maxHeartbeats 0 in
theorem PySem.Challenge.cw_runsums_k05_whole_programs_written_and_r_holds : PySem.Challenge.rw_runsums_k05_whole_programs_written_and_r.Holds := by
  w_on; o_law; k_head; (case hw => w_witness2)
  k_fill
  refine Rs.walk_g (l := PySem.Challenge.rw_runsums_k05_whole_programs_written_and_r) (n := 63) (k := 8) (x := "script") (CX := fun _ => L2.CX0) (sp := fun w => Rs.sp_f_law _) rfl (by decide) rfl ⟨⟨rfl, by decide, by decide⟩, rfl, by decide⟩ (fun w h Y => PySem.W.kIn_of Y) ?F (fun _ _ a ns hl hO hS => ⟨a, ns, rfl, Rs.SqF.of hO hS, hl, fun _ => rfl⟩) (fun _ _ _ _ _ h => h)
  case F =>
    intro w mg fa h KX G hmg
    refine' Rs.all_mk KX G hmg ?g_Program ?mk_Program ?kc_Program ?pg_Program ?hd_Program ?po_Program ?sa_Program ?o1_Program ?o2_Program ?o3_Program ?o6_Program ?na_Program_boxes ?na_Program_rows ?o4 ?o5 ?a0 ?l0 ?c0 ?k0 ?a1 ?l1 ?c1 ?k1 ?a2 ?l2 ?c2 ?k2 ?a3 ?l3 ?c3 ?k3 ?a4 ?i4 ?l4 ?c4 ?k4 ?a5 ?l5 ?c5 ?k5 ?a6 ?l6 ?c6 ?k6 ?a7 ?l7 ?c7 ?k7 ?a8 ?l8 ?c8 ?k8 ?a9 ?l9 ?c9 ?k9 ?a10 ?l10 ?c10 ?k10 ?a11 ?l11 ?c11 ?k11 ?a12 ?l12 ?c12 ?k12 ?a13 ?l13 ?c13 ?k13 ?a14 ?l14 ?c14 ?k14 ?a15 ?l15 ?c15 ?k15 ?a16 ?l16 ?c16 ?k16 ?a17 ?l17 ?c17 ?k17 ?a18 ?l18 ?c18 ?k18 ?a19 ?l19 ?c19 ?k19 ?a20 ?i20 ?l20 ?c20 ?k20 ?a21 ?i21 ?l21 ?c21 ?k21 ?a22 ?l22 ?c22 ?k22 ?z_isinstance ?z_int ?z_bool ?z_all ?z_len ?z_zip ?z_enumerate ?z_tuple ?z_str ?z_range ?z_max ?z_min ?y_SHAPES ?ld_SHAPES ?kl_SHAPES ?sm_SHAPES ?v_SHAPES_0 ?lt_SHAPES_0 ?vt_SHAPES_0 ?v_SHAPES_1 ?lt_SHAPES_1 ?vt_SHAPES_1 ?v_SHAPES_2 ?lt_SHAPES_2 ?vt_SHAPES_2 ?v_SHAPES_3 ?lt_SHAPES_3 ?vt_SHAPES_3 ?v_SHAPES_4 ?lt_SHAPES_4 ?vt_SHAPES_4 ?y_MOST_BOXES ?y_MOST_ROWS ?y_FIGURES
    (case g_Program => k_is)
    (case mk_Program => k_is)
    (case kc_Program => k_is)
    (case pg_Program => k_is)
    (case hd_Program => k_is)
    (case po_Program => k_is)
    (case sa_Program => k_is)
    (case o1_Program => k_is)
    (case o2_Program => k_is)
    (case o3_Program => k_is)
    (case o6_Program => exact if_pos (beq_self_eq_true _))
    (case na_Program_boxes => k_is)
    (case na_Program_rows => k_is)
    (case o4 => k_is)
    (case o5 => k_is)
    (case a0 => k_is)
    (case l0 => k_is)
    (case c0 => k_is)
    (case k0 => k_is)
    (case a1 => k_is)
    (case l1 => k_is)
    (case c1 => k_is)
    (case k1 => k_is)
    (case a2 => k_is)
    (case l2 => k_is)
    (case c2 => k_is)
    (case k2 => k_is)
    (case a3 => k_is)
    (case l3 => k_is)
    (case c3 => k_is)
    (case k3 => k_is)
    (case a4 => k_is)
    (case i4 => k_is)
    (case l4 => k_is)
    (case c4 => k_is)
    (case k4 => k_is)
    (case a5 => k_is)
    (case l5 => k_is)
    (case c5 => k_is)
    (case k5 => k_is)
    (case a6 => k_is)
    (case l6 => k_is)
    (case c6 => k_is)
    (case k6 => k_is)
    (case a7 => k_is)
    (case l7 => k_is)
    (case c7 => k_is)
    (case k7 => k_is)
    (case a8 => k_is)
    (case l8 => k_is)
    (case c8 => k_is)
    (case k8 => k_is)
    (case a9 => k_is)
    (case l9 => k_is)
    (case c9 => k_is)
    (case k9 => k_is)
    (case a10 => k_is)
    (case l10 => k_is)
    (case c10 => k_is)
    (case k10 => k_is)
    (case a11 => k_is)
    (case l11 => k_is)
    (case c11 => k_is)
    (case k11 => k_is)
    (case a12 => k_is)
    (case l12 => k_is)
    (case c12 => k_is)
    (case k12 => k_is)
    (case a13 => k_is)
    (case l13 => k_is)
    (case c13 => k_is)
    (case k13 => k_is)
    (case a14 => k_is)
    (case l14 => k_is)
    (case c14 => k_is)
    (case k14 => k_is)
    (case a15 => k_is)
    (case l15 => k_is)
    (case c15 => k_is)
    (case k15 => k_is)
    (case a16 => k_is)
    (case l16 => k_is)
    (case c16 => k_is)
    (case k16 => k_is)
    (case a17 => k_is)
    (case l17 => k_is)
    (case c17 => k_is)
    (case k17 => k_is)
    (case a18 => k_is)
    (case l18 => k_is)
    (case c18 => k_is)
    (case k18 => k_is)
    (case a19 => k_is)
    (case l19 => k_is)
    (case c19 => k_is)
    (case k19 => k_is)
    (case a20 => k_is)
    (case i20 => k_is)
    (case l20 => k_is)
    (case c20 => k_is)
    (case k20 => k_is)
    (case a21 => k_is)
    (case i21 => k_is)
    (case l21 => k_is)
    (case c21 => k_is)
    (case k21 => k_is)
    (case a22 => k_is)
    (case l22 => k_is)
    (case c22 => k_is)
    (case k22 => k_is)
    (case z_isinstance => k_is)
    (case z_int => k_is)
    (case z_bool => k_is)
    (case z_all => k_is)
    (case z_len => k_is)
    (case z_zip => k_is)
    (case z_enumerate => k_is)
    (case z_tuple => k_is)
    (case z_str => k_is)
    (case z_range => k_is)
    (case z_max => k_is)
    (case z_min => k_is)
    (case y_SHAPES => k_is)
    (case ld_SHAPES => k_is)
    (case kl_SHAPES => exact ⟨⟨_, _, rfl, rfl⟩, ⟨_, _, rfl, rfl⟩, ⟨_, _, rfl, rfl⟩, ⟨_, _, rfl, rfl⟩, ⟨_, _, rfl, rfl⟩, trivial⟩)
    (case sm_SHAPES => first | rfl | decide)
    (case v_SHAPES_0 => k_is)
    (case lt_SHAPES_0 => k_is)
    (case vt_SHAPES_0 => exact ⟨by decide, (.cons ⟨_, rfl⟩ .nil)⟩)
    (case v_SHAPES_1 => k_is)
    (case lt_SHAPES_1 => k_is)
    (case vt_SHAPES_1 => exact ⟨by decide, (.cons ⟨_, rfl⟩ .nil)⟩)
    (case v_SHAPES_2 => k_is)
    (case lt_SHAPES_2 => k_is)
    (case vt_SHAPES_2 => exact ⟨by decide, (.cons ⟨_, rfl⟩ (.cons ⟨_, rfl⟩ .nil))⟩)
    (case v_SHAPES_3 => k_is)
    (case lt_SHAPES_3 => k_is)
    (case vt_SHAPES_3 => exact ⟨by decide, (.cons ⟨_, rfl⟩ .nil)⟩)
    (case v_SHAPES_4 => k_is)
    (case lt_SHAPES_4 => k_is)
    (case vt_SHAPES_4 => exact ⟨by decide, .nil⟩)
    (case y_MOST_BOXES => k_is)
    (case y_MOST_ROWS => k_is)
    (case y_FIGURES => k_is)
