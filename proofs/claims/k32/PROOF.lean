import PyProof.Rows.All
import Wide.All
import OpenK.AllK
import Wide.FinOn
import HandS.ForMost
import HandS.ForExc
import HandS.Flow
import HandS.Style
import HandS.Wide
import HandS.WideMore
import HandS.WideBits
import HandS.IsInst
import HandS.Rev
import HandS.Walk
import HandS.IntHex
import HandS.SortKw
import KE.GoesEnumKw
import HandS.Zip
import KE.GoesMore
import HandS.More
import HandS.DictComp
import HandS.ListItems
import HandS.TupAny
import HandS.Defaults
import PyProof.P3Eq
import HandS.FStr
import HandS.Conv
import KE.KDictList
import PyProof.CollectStr
import PyProof.Rows.TmSorted
import PyProof.Rows.StrMeet
import HandS.OwnEq
import PySem.Challenge.RW_runsums_k32_sayings_of_programs
set_option Elab.async false
set_option linter.all false
set_option maxRecDepth 100000
set_option maxHeartbeats 4000000
set_option exponentiation.threshold 20000

namespace Rs
open PySem L2 PyProof.Rows
abbrev Sm := L2.Same
/-! ### rules side by side -/
section
variable {X : Cx}
theorem op_or {f : Value → Value → Sem Value} {r r' : R2} (h : OpR X f r) (h' : OpR X f r') : OpR X f (fun x y H Q => r x y H Q ∨ r' x y H Q) := by
  intro pins s σ H x y v u Q I rx ry q
  rcases q with q | q
  · exact h pins s σ H x y v u Q I rx ry q
  · exact h' pins s σ H x y v u Q I rx ry q
theorem cr_or {f : Value} {r r' : List V → Hp → VK → Prop} (h : CallR X f r) (h' : CallR X f r') : CallR X f (fun xs H Q => r xs H Q ∨ r' xs H Q) := by
  intro pins s σ H xs us Q I rx q
  rcases q with q | q
  · exact h pins s σ H xs us Q I rx q
  · exact h' pins s σ H xs us Q I rx q
def gAdd (K : PySem.W.Frag) : R2 := fun x y H Q => rI0 (fun i j => .int (i + j)) x y H Q ∨ ((∃ i j, x = .str i ∧ y = .str j ∧ i.length + j.length ≤ sizeLine ∧ Q (.str (i ++ j)) H) ∨ (rCat x y H Q ∨ rCatA K x y H Q))
theorem op_gAdd {K : PySem.W.Frag} (hK : X.K = K) : OpR X (binaryOp .Add) (gAdd K) := by subst hK; exact op_or op_add (op_or op_add_str (op_or op_cat op_catA))
def CM (i j : Int) : Prop := CMul i j ∨ CMulX i j
def gMul : R2 := fun x y H Q => rI CMul (fun i j => .int (i * j)) x y H Q ∨ (rI CMulX (fun i j => .int (i * j)) x y H Q ∨ rRep x y H Q)
theorem op_gMul : OpR X (binaryOp .Mult) gMul := op_or op_mul (op_or op_mulX op_rep)
def gMulS : R2 := fun x y H Q => ∃ a n, x = .str a ∧ y = .int n ∧ MulOk a n ∧ Q (.str (Txt.mul a n)) H
theorem op_gMulS : OpR X (binaryOp .Mult) gMulS := by
  intro pins s σ H x y u v Q I rx ry h
  obtain ⟨a, n, rfl, rfl, hok, q⟩ := h
  obtain ⟨t, rfl⟩ := rx
  obtain ⟨t', rfl⟩ := ry
  exact SB.mul hok fun t' k => ⟨.str _, H, I.tok _, ⟨_, rfl⟩, q⟩
def gDiv : R2 := fun x y H Q => rI CDivW (fun i j => .int (i / j)) x y H Q
theorem op_gDiv : OpR X (binaryOp .FloorDiv) gDiv := op_fdivW
def gMod : R2 := rI (fun _ j => 0 < j) fun i j => .int (i % j)
theorem op_gMod : OpR X (binaryOp .Mod) gMod := op_mod
def gShl : R2 := rI CShl fun i j => .int (i * 2 ^ j.toNat)
theorem op_gShl : OpR X (binaryOp .LShift) gShl := op_shlW
def gPow : R2 := rI CPow fun i j => .int (i ^ j.toNat)
theorem op_gPow : OpR X (binaryOp .Pow) gPow := op_pow
def gShr : R2 := rI (fun _ j => 0 ≤ j) fun i j => .int (i / 2 ^ j.toNat)
theorem op_gShr : OpR X (binaryOp .RShift) gShr := op_shr
def gAnd : R2 := rI0 fun i j => .int (Builtin.bitAnd i j)
theorem op_gAnd : OpR X (binaryOp .BitAnd) gAnd := op_and
def gLt : R2 := rI0 fun i j => .bl (decide (i < j))
theorem op_gLt : OpR X (compareOp .Lt) gLt := op_lt
def gLe : R2 := rI0 fun i j => .bl (decide (i ≤ j))
theorem op_gLe : OpR X (compareOp .LtE) gLe := op_le
def gGt : R2 := rI0 fun i j => .bl (decide (j < i))
theorem op_gGt : OpR X (compareOp .Gt) gGt := op_gt
def gGe : R2 := rI0 fun i j => .bl (decide (j ≤ i))
theorem op_gGe : OpR X (compareOp .GtE) gGe := op_ge
def gEq (K : PySem.W.Frag) : R2 := fun x y H Q => rEq x y H Q ∨ rEqD K x y H Q
theorem op_gEq {K : PySem.W.Frag} (hK : X.K = K) (hu : X.A.units + 64 < cLine) : OpR X (compareOp .Eq) (gEq K) := by subst hK; exact op_or op_eq (op_eqD hu)
def gNe (K : PySem.W.Frag) : R2 := fun x y H Q => rNe x y H Q ∨ rNeD K x y H Q
theorem op_gNe {K : PySem.W.Frag} (hK : X.K = K) (hu : X.A.units + 64 < cLine) : OpR X (compareOp .NotEq) (gNe K) := by subst hK; exact op_or op_ne (op_neD hu)
def gLen (K : PySem.W.Frag) : List V → Hp → VK → Prop := fun xs H Q => (∃ p ys, xs = [.ref p] ∧ (SqL K H p ys ∨ SqT K H p ys) ∧ Q (.int ys.length) H) ∨ (∃ z, xs = [.str z] ∧ z.length ≤ sizeLine ∧ Q (.int z.length) H)
theorem call_gLen {K : PySem.W.Frag} (hK : X.K = K) : CallR X (.builtin "len") (gLen K) := by subst hK; exact cr_or call_len_seq call_len_str
theorem call_gIsi {K : PySem.W.Frag} (hK : X.K = K) : CallR X (.builtin "isinstance") (rIsi K) := by subst hK; exact call_isi
theorem ix_g {K : PySem.W.Frag} (hK : X.K = K) : IxR X (rIx K) := by subst hK; exact ix_seq
def gSl (K : PySem.W.Frag) : V → Option Int → Option Int → Hp → VK → Prop := fun x lo hi H Q => rSlL K x lo hi H Q ∨ rSlA K x lo hi H Q
theorem sl_gl {K : PySem.W.Frag} (hK : X.K = K) : SlR X (gSl K) := by subst hK; exact SlR.or sl_list sl_tupA
theorem sl_gt {K : PySem.W.Frag} (hK : X.K = K) : SlR X (rSlT K) := by subst hK; exact sl_tup
theorem pi_gl {K : PySem.W.Frag} (hK : X.K = K) {tg l : Expr} {tl : TE} (hl : PE X l tl) : PI X tg l (iList K tl) := by subst hK; exact pi_list hl
theorem pi_gt {K : PySem.W.Frag} (hK : X.K = K) {tg l : Expr} {tl : TE} (hl : PE X l tl) : PI X tg l (iTup K tl) := by subst hK; exact pi_tup hl
theorem op_gInSeq {K : PySem.W.Frag} (hK : X.K = K) : OpR X (compareOp .In) (rIn K false) := by subst hK; exact op_in_seq
theorem op_gNotInSeq {K : PySem.W.Frag} (hK : X.K = K) : OpR X (compareOp .NotIn) (rIn K true) := by subst hK; exact op_notIn_seq
def gTup2 (K : PySem.W.Frag) (n : Nat) (t : TGs) : TG := gTup K n t
theorem pg_gt {K : PySem.W.Frag} (hK : X.K = K) {es : List Expr} {k : Nat} {pos : Pos} {t : TGs} {n : Nat} (hc : X.calm = true) (h : PGs X es t) (hl : (assignEach es X.env).length = n := by rfl) (hst : (assignEach es X.env).findIdx? (·.1) = none := by rfl) :
    PG X (.Tuple es k pos) (gTup2 K n t) := by subst hK; exact pg_tup hc h hl hst
theorem pe_gbm {K : PySem.W.Frag} (hK : X.K = K) {o e : Expr} {es : List Expr} {to : TE} {t : TA} {name : Str} {apos cpos : Pos} {T id : String} {r : V → List V → Hp → VK → Prop} (pa : PlainAttrs T) (slot : Slot T name id) (hty : typeOf (.builtin id) = pure (.type "method_descriptor")) (hm : MtR X id r) (ho : PE X o to) (ha : PA X (e :: es) t)
    (hbase : attributeBase o name X.env (eval o X.env) = eval o X.env := by rfl)
    (hfew : ((backTo cpos (starEach (e :: es) X.env)).all (fun x => !x.1) && (backToKw cpos (keywordEach [] X.env)).all (fun x => x.1.isSome)
      && decide ((e :: es).length + ([] : List Keyword).length + (if ([] : List Keyword).isEmpty then 0 else 1) < 30)) = true := by rfl)
    (hline : (apos.endLine == cpos.line) = true := by rfl) (hs : starEach (e :: es) X.env = (false, eval e X.env) :: starEach es X.env := by rfl) (hplain : (backTo cpos (starEach es X.env)).any (·.1) = false := by rfl) :
    PE X (.Call (.Attribute o name apos) (e :: es) [] cpos) (tBM K T r to t) := by subst hK; exact pe_bm pa slot hty hm ho ha hbase hfew hline hs hplain
theorem pe_gbm0 {K : PySem.W.Frag} (hK : X.K = K) {o : Expr} {to : TE} {name : Str} {apos cpos : Pos} {T id : String} {r : V → List V → Hp → VK → Prop} (pa : PlainAttrs T) (slot : Slot T name id) (hty : typeOf (.builtin id) = pure (.type "method_descriptor")) (hm : MtR X id r) (ho : PE X o to)
    (hbase : attributeBase o name X.env (eval o X.env) = eval o X.env := by rfl) (hline : (apos.endLine == cpos.line) = true := by rfl) : PE X (.Call (.Attribute o name apos) [] [] cpos) (tBM0 K T r to) := by subst hK; exact pe_bm0 pa slot hty hm ho hbase hline
def gTpl (K : PySem.W.Frag) : List V → Hp → VK → Prop := (fun xs H Q => ∃ p ys, xs = [.ref p] ∧ ((SqL K H p ys ∧ ∀ l, H l = none → Q (.ref l) (upd H l (.tup ys))) ∨ (SqT K H p ys ∧ Q (.ref p) H)))
def gLst (K : PySem.W.Frag) : List V → Hp → VK → Prop := (fun xs H Q => ∃ p ys, xs = [.ref p] ∧ (SqL K H p ys ∨ SqT K H p ys) ∧ ∀ l, H l = none → Q (.ref l) (upd H l (.lst ys)))
theorem call_gTuple {K : PySem.W.Frag} (hK : X.K = K) : CallR X (.type "tuple") (gTpl K) := by subst hK; exact call_tuple_of
theorem call_gList {K : PySem.W.Frag} (hK : X.K = K) : CallR X (.type "list") (gLst K) := by subst hK; exact call_list_of
theorem iop_mulX : OpR X (inplaceOp .Mult) (rI CMulX fun i j => .int (i * j)) := opI fun _ _ _ _ _ _ _ hc q => imul_int q hc.ok
def gIAdd : R2 := fun x y H Q => rI0 (fun i j => .int (i + j)) x y H Q ∨ (∃ i j, x = .str i ∧ y = .str j ∧ i.length + j.length ≤ sizeLine ∧ Q (.str (i ++ j)) H)
def gIMul : R2 := fun x y H Q => rI CMul (fun i j => .int (i * j)) x y H Q ∨ rI CMulX (fun i j => .int (i * j)) x y H Q
def gXor : R2 := rI0 fun i j => .int (Builtin.bitXor i j)
theorem ip_gAdd : PIp X .Add gIAdd := op_or iop_add iop_add_str
theorem ip_gMul : PIp X .Mult gIMul := op_or iop_mul iop_mulX
theorem ip_gDiv : PIp X .FloorDiv gDiv := iop_fdivW
theorem ip_gShr : PIp X .RShift gShr := iop_shr
theorem ip_gShl : PIp X .LShift gShl := iop_shlW
theorem op_gXor {X : Cx} : OpR X (binaryOp .BitXor) gXor := op_xor
theorem ip_gXor : PIp X .BitXor gXor := iop_xor
theorem ip_gAnd : PIp X .BitAnd gAnd := iop_and
theorem ip_gSub : PIp X .Sub (rI0 fun i j => .int (i - j)) := iop_sub
def gIntC : List V → Hp → VK → Prop := fun xs H Q => (∃ i, xs = [.int i] ∧ Q (.int i) H) ∨ ∃ k, xs = [.bl k] ∧ Q (.int (if k then 1 else 0)) H
theorem call_gInt : CallR X (.type "int") gIntC := call_int1
def gMax : List V → Hp → VK → Prop := fun xs H Q => ∃ i j, xs = [.int i, .int j] ∧ Q (.int (if j > i then j else i)) H
theorem call_gMax (hc : X.calm = true) : CallR X (.builtin "max") gMax := call_max2 hc
def gMin : List V → Hp → VK → Prop := fun xs H Q => ∃ i j, xs = [.int i, .int j] ∧ Q (.int (if j < i then j else i)) H
theorem call_gMin (hc : X.calm = true) : CallR X (.builtin "min") gMin := call_min2 hc
end
/-! ### a def's promise where nothing is being shown (no repr under way) -/
structure RoomG (k : Nat) (A : Around) : Prop where
  rm : Room k A
  gd : A.guards = some []
  un : A.units + 16 * k + 6000 < cLine
theorem RoomG.mono {j k : Nat} {A : Around} (r : RoomG k A) (h : j ≤ k) : RoomG j A := ⟨r.rm.mono h, r.gd, by have := r.un; omega⟩
theorem RoomG.units {k : Nat} {A : Around} (r : RoomG k A) : A.units + 64 < cLine := r.rm.units
theorem RoomG.big {k : Nat} {A : Around} (r : RoomG k A) : A.units + 5000 < cLine := by have := r.un; omega
theorem RoomG.down {k : Nat} {A : Around} (r : RoomG (k + 1) A) (v : Env) : RoomG k (A.deeper v) := ⟨r.rm.deeper v, r.gd, by have := r.un; show A.units + 3 + 16 * k + 6000 < _; omega⟩
theorem RoomG.in1 {k : Nat} {A : Around} (r : RoomG (k + 1) A) : RoomG k A.in1 := ⟨r.rm.in1, r.gd, by have := r.un; show A.units + 1 + 16 * k + 6000 < _; omega⟩
structure FnG (P : Program) (w : World) (K : PySem.W.Frag) (mg : Str → Option Value) (base : Heap) (CX : CXT) (k : Nat) (f : Addr) (fd : FuncData) (ps : List Str) (sp : Sp) : Prop where
  ln : ∀ vs H Q E, sp vs H Q E → vs.length = ps.length
  go : ∀ (A : Around) (ou : List Env) (z : Shared) (H : Hp) (ar : Args) (us : List Value) (vs : List V) (Q : VK) (E : XK), RoomG k A → Env0 P w K mg base A ou z H → BindsTo z fd ar (ps.zip us) → Vals vs us → sp vs H Q E →
    codeAny (model P w) A (.call (.ref f) ar) (CR CX ou P w H z Q E) z
theorem FnG.of {P : Program} {w : World} {K : PySem.W.Frag} {mg : Str → Option Value} {base : Heap} {CX : CXT} {k : Nat} {f : Addr} {fd : FuncData} {ps : List Str} {sp : Sp} (F : FnOk P w K mg base CX k f fd ps sp) : FnG P w K mg base CX k f fd ps sp :=
  ⟨F.len, fun A ou z H ar us vs Q E hr => F.run A ou z H ar us vs Q E hr.rm⟩
/-- a call's end is what the caller wants -/
theorem aft {X : Cx} {CX : CXT} {pins : List (Addr × Obj)} {σ : L2.St} {H : Hp} {s : Shared} {Q : VK} {E : XK} (hx : Passes CX X E) (I : Inv X pins σ H s) {r : Result} {z : Shared} (h : CR CX X.stack X.prog X.w H s Q E r z) :
    callEnd (EP X pins σ Q) X.xe r z := by
  cases r with
  | error e => exact hx pins σ H s e z I h
  | ok fl => cases fl with
    | ret u => exact I.after h
    | next => exact h.elim
    | brk => exact h.elim
    | cont => exact h.elim
theorem run_g {X : Cx} {CX : CXT} {k : Nat} {f : Addr} {fd : FuncData} {ps : List Str} {sp : Sp} {E : XK} {pins : List (Addr × Obj)} {σ : L2.St} {H : Hp} {s : Shared} {Q : VK} {us : List Value} {vs : List V}
    (F : FnG X.prog X.w X.K X.mg X.base CX k f fd ps sp) (hr : RoomG k X.A) (hb : Binds X.K fd ps []) (hx : Passes CX X E) (I : Inv X pins σ H s) (r : Vals vs us) (h : sp (vs ++ []) H Q E) : wpAny (model X.prog X.w) X.A (call (.ref f) us) (EP X pins σ Q) X.xe s := by
  have q := r.append (show Vals [] [] from .nil)
  exact wpAny_call (codeAny_mono (F.go X.A X.stack s H ⟨us, []⟩ (us ++ []) (vs ++ []) Q E hr I.env0 (hb s us I.kIn (q.length.symm.trans (F.ln _ _ _ _ h))) q h) fun _ _ y => aft hx I y)
theorem run_gk {X : Cx} {CX : CXT} {k : Nat} {f : Addr} {fd : FuncData} {ps ks : List Str} {sp : Sp} {g : List Value → List Value → List Value} {gV : List V → List V → List V} {E : XK} {pins : List (Addr × Obj)} {σ : L2.St} {H : Hp} {s : Shared} {Q : VK} {us ws : List Value} {vs zs : List V}
    (F : FnG X.prog X.w X.K X.mg X.base CX k f fd ps sp) (hr : RoomG k X.A) (hb : KBinds X.K fd ps ks g gV) (hx : Passes CX X E) (I : Inv X pins σ H s) (r : Vals vs us) (rz : Vals zs ws) (h : sp (gV vs zs) H Q E) :
    wpAny (model X.prog X.w) X.A (call (.ref f) us (ks.zip ws)) (EP X pins σ Q) X.xe s := by
  have q := hb.rel r rz
  exact wpAny_call (codeAny_mono (F.go X.A X.stack s H ⟨us, ks.zip ws⟩ (g us ws) (gV vs zs) Q E hr I.env0 (hb.to s us ws I.kIn (q.length.symm.trans (F.ln _ _ _ _ h))) q h) fun _ _ y => aft hx I y)
theorem fn_g {CX : CXT} {P : Program} {w : World} {K : PySem.W.Frag} {mg : Str → Option Value} {base : Heap} {k : Nat} {f : Addr} {nm qu : Str} {pr : Arguments} {bd : List Stmt} {sc : Scope} {dV kV dc pm cd ct oc : Value} {an od : Option Addr} {sl : Array (Option Value)} {N ps : List Str} {sp : Sp}
    (lk : K.lookup f = some ⟨oc, od, .func (PySem.W.fnOf nm qu pr bd sc dV kV dc pm an cd ct), sl⟩) (hc : PySem.W.codeIn K cd qu = true) (S : FnScope N ps sc) (ln : ∀ vs H Q E, sp vs H Q E → vs.length = ps.length)
    (hb : ∀ (A : Around) (ou : List Env) (z : Shared) (H : Hp) (vs : List V) (Q : VK) (E : XK), RoomG k (A.deeper (envOfC qu sc z.heap.objs.size f cd)) → sp vs H Q E → ∃ t, PSs (cxOf CX P w K mg base N qu sc f cd A ou z H E) bd t ∧ t { nx := fun _ H' => Q .non H', rt := Q } (start N vs) H) :
    FnG P w K mg base CX (k + 1) f (PySem.W.fnOf nm qu pr bd sc dV kV dc pm an cd ct) ps sp := by
  refine ⟨ln, fun A ou z H ar us vs Q E hr e0 bt r hs => ?_⟩
  have hl := ln _ _ _ _ hs
  have old : ∀ b o, base.get? b = some o → z.heap.get? b = some o := fun b o e => (e0.bs b o e).1
  have kz := e0.mod.kin.keeps old
  have lim := e0.mod.nolimit.keeps old
  have hk : ∀ y ∈ ps.zip us, sc.names.lookup y.1 = some .local ∨ (sc.names.lookup y.1 = some .cell ∧ ((cellsFrom (z.heap.objs.size + 1) sc.names []).lookup y.1).isSome = true) := by
    intro y hy
    rcases S.par y.1 (List.of_mem_zip hy).1 with q | q
    · exact .inl q
    · exact .inr ⟨q, PySem.W.cellsFrom_some _ _ _ (.inl q)⟩
  refine codeAny_call_function hr.rm.depth (kz _ _ lk) rfl S.co S.gen rfl (PySem.W.codeRec_of kz hc) (bt _ _ _ _ (wpAny_newFunctionEnv_cells S.kind hk fun v hv z1 x => ?_))
  subst hv
  refine ⟨lim.keeps x.toInCall.keep, codeAny_func ?_⟩
  obtain ⟨t, ht, hq⟩ := hb A ou z H vs Q E (hr.down _) hs
  refine wpAny_mono (ht.run [] z1 (start N vs) H _ (inv_start S hr.rm.hd e0 hl r x) hq) (fun fl z2 y => ?_) fun _ _ y => y
  cases fl with
  | ret u =>
    obtain ⟨v, σ', H', J, rv, q⟩ := y
    exact ⟨v, H', J.os, J.bare, J.base, J.hok, rv, q⟩
  | next =>
    obtain ⟨σ', H', J, q⟩ := y
    exact ⟨V.non, H', J.os, J.bare, J.base, J.hok, rfl, q⟩
  | brk => exact y.elim fun _ y => y.elim fun _ y => y.2.elim
  | cont => exact y.elim fun _ y => y.elim fun _ y => y.2.elim
theorem okG {CX : CXT} {P : Program} {w : World} {K : PySem.W.Frag} {mg : Str → Option Value} {base : Heap} {x qu : Str} {st : Stmt} {f : Addr} {fd : FuncData} {N ps : List Str} {k : Nat} {sp : Sp} (F : Fun K x qu st f fd) (S : FnScope N ps (defScope st)) (ln : ∀ vs H Q E, sp vs H Q E → vs.length = ps.length)
    (hb : ∀ (cd : Value) (A : Around) (ou : List Env) (z : Shared) (H : Hp) (vs : List V) (Q : VK) (E : XK), RoomG k (A.deeper (envOfC qu (defScope st) z.heap.objs.size f cd)) → sp vs H Q E →
      ∃ t, PSs (cxOf CX P w K mg base N qu (defScope st) f cd A ou z H E).nox (defBody st) t ∧ t { nx := fun _ H' => Q .non H', rt := Q } (start N vs) H) : FnG P w K mg base CX (k + 1) f fd ps sp := by
  obtain ⟨oc, od, kV, dc, pm, an, cd, ct, sl, rfl, lk, hc⟩ := F.ex
  refine fn_g lk hc S ln fun A ou z H vs Q E hr hs => ?_
  obtain ⟨t, h, q⟩ := hb cd A ou z H vs Q E hr hs
  exact ⟨t, h.nox, q⟩
/-- the same for a def with defaults -/
theorem okD {CX : CXT} {P : Program} {w : World} {K : PySem.W.Frag} {mg : Str → Option Value} {base : Heap} {x qu : Str} {st : Stmt} {dvs : List V} {f : Addr} {fd : FuncData} {N ps : List Str} {k : Nat} {sp : Sp} (F : FunD K x qu (defArgs st) (defBody st) (defScope st) dvs [] f fd) (S : FnScope N ps (defScope st)) (ln : ∀ vs H Q E, sp vs H Q E → vs.length = ps.length)
    (hb : ∀ (cd : Value) (A : Around) (ou : List Env) (z : Shared) (H : Hp) (vs : List V) (Q : VK) (E : XK), RoomG k (A.deeper (envOfC qu (defScope st) z.heap.objs.size f cd)) → sp vs H Q E →
      ∃ t, PSs (cxOf CX P w K mg base N qu (defScope st) f cd A ou z H E).nox (defBody st) t ∧ t { nx := fun _ H' => Q .non H', rt := Q } (start N vs) H) : FnG P w K mg base CX (k + 1) f fd ps sp := by
  obtain ⟨oc, od, dV, kV, dc, pm, an, cd, ct, sl, rfl, lk, hc, _, _⟩ := F.ex
  refine fn_g lk hc S ln fun A ou z H vs Q E hr hs => ?_
  obtain ⟨t, h, q⟩ := hb cd A ou z H vs Q E hr hs
  exact ⟨t, h.nox, q⟩
theorem fund_mk {K : PySem.W.Frag} {x qual : Str} {st : Stmt} {dvs : List V} {f T : Addr} {oc tc : Value} {od an td : Option Addr} {osl ts : Array (Option Value)} {kV doc pm cdv ct : Value} {ti : Array Value} {tn : Nat} (l : K.lookup f = some ⟨oc, od, .func (PySem.W.fnOf x qual (defArgs st) (defBody st) (defScope st) (.ref T) kV doc pm an cdv ct), osl⟩)
    (c : PySem.W.codeIn K cdv qual = true) (k : PySem.W.keepIn K (.ref f) = true) (lt : K.lookup T = some ⟨tc, td, .seq ti tn, ts⟩) (hv : Vals dvs ti.toList) (hd : dvs ≠ []) :
    FunD K x qual (defArgs st) (defBody st) (defScope st) dvs [] f (PySem.W.fnOf x qual (defArgs st) (defBody st) (defScope st) (.ref T) kV doc pm an cdv ct) :=
  ⟨⟨oc, od, .ref T, kV, doc, pm, an, cdv, ct, osl, rfl, l, c, .inr ⟨hd, T, _, ti.toList, tn, rfl, lt, by rw [Array.toArray_toList], hv⟩, .inl rfl⟩, k⟩
theorem kb_dfl {K : PySem.W.Frag} {x qual : Str} {params : Arguments} {body : List Stmt} {scope : Scope} {dvs : List V} {f : Addr} {fd : FuncData} {ps ks : List Str} (F : FunD K x qual params body scope dvs [] f fd) (hd : dvs ≠ []) (g : {α : Type} → List α → List α → List α → List α)
    (hrel : ∀ {vs zs : List V} {us ws its : List Value}, Vals vs us → Vals zs ws → Vals dvs its → Vals (g dvs vs zs) (g its us ws))
    (h : ∀ (T : Addr) (kV doc pm : Value) (an : Option Addr) (cdv ct : Value) (us ws its : List Value), its.length = dvs.length → (g its us ws).length = ps.length →
      ∃ k, bindArgs (PySem.W.fnOf x qual params body scope (.ref T) kV doc pm an cdv ct) ⟨us, ks.zip ws⟩ = seqItems? (.ref T) >>= k ∧ k (some its.toArray) = pure (ps.zip (g its us ws))) : ∃ g', KBinds K fd ps ks g' (fun vs zs => g dvs vs zs) := by
  obtain ⟨oc, od, dV, kV, doc, pm, an, cdv, ct, osl, rfl, lk, hcd, hD, hK⟩ := F.ex
  rcases hD with ⟨e, _⟩ | ⟨_, T, o, its, m, rfl, lT, oT, rT⟩
  · exact absurd e hd
  · refine ⟨fun us ws => g its us ws, fun s us ws X hl => ?_, fun r1 r2 => hrel r1 r2 rT⟩
    obtain ⟨k, e1, e2⟩ := h T kV doc pm an cdv ct us ws its rT.length.symm hl
    refine BindsTo.of_looks fun M => ?_
    rw [e1]
    exact looks_items X lT oT (.of_pure e2)
/-! ### a def by its name -/
structure Def (P : Program) (w : World) (K : PySem.W.Frag) (mg : Str → Option Value) (base : Heap) (CX : CXT) (name : Str) (k : Nat) (ps : List Str) (sp : Sp) : Prop where
  ex : ∃ f fd, mg name = some (.ref f) ∧ FnG P w K mg base CX k f fd ps sp ∧ PySem.W.keepIn K (.ref f) = true ∧ Binds K fd ps []
section
variable {X : Cx} {CX : CXT} {k : Nat} {ps : List Str} {sp : Sp} {x : Str} {p pos : Pos} {e : Expr} {es : List Expr} {t : TA} {E : XK}
theorem pe_f (G : Def X.prog X.w X.K X.mg X.base CX x k ps sp) (hr : RoomG k X.A) (hg : Gl X x) (hx : Passes CX X E) (ha : PA X (e :: es) t) (hdb : (x == ("__debug__" : Str)) = false := by decide)
    (he : starEach (e :: es) X.env = (false, eval e X.env) :: starEach es X.env := by rfl) (hpl : (backTo pos (starEach es X.env)).any (·.1) = false := by rfl) :
    PE X (.Call (.Name x p) (e :: es) [] pos) (tCall sp [] E t) := by
  obtain ⟨f, fd, m, F, kp, b⟩ := G.ex
  refine ⟨fun pins s σ H Q I h => wpAny_Call_Name_kw (ld_glob I hg m ?_ hdb)⟩
  exact PySem.W.callWith_K (h₀ := X.base) I.ok.mod.kin kp (thn (ha.run pos pins s σ H _ I h) fun us z ⟨vs, G, J, r, q⟩ => ⟨J.kIn, run_g F hr b hx J r q⟩) he hpl
theorem pe_f0 (G : Def X.prog X.w X.K X.mg X.base CX x k ps sp) (hr : RoomG k X.A) (hg : Gl X x) (hx : Passes CX X E) (hdb : (x == ("__debug__" : Str)) = false := by decide) :
    PE X (.Call (.Name x p) [] [] pos) (tCall sp [] E tNil) := by
  obtain ⟨f, fd, m, F, kp, b⟩ := G.ex
  refine ⟨fun pins s σ H Q I h => wpAny_Call_Name_kw (ld_glob I hg m ?_ hdb)⟩
  exact PySem.W.callWith_K0 I.kIn kp (run_g (us := []) F hr b hx I .nil h)
end
/-- a def called by its arguments' names -/
structure DefK (P : Program) (w : World) (K : PySem.W.Frag) (mg : Str → Option Value) (base : Heap) (CX : CXT) (name : Str) (k : Nat) (ps ks : List Str) (gV : List V → List V → List V) (sp : Sp) : Prop where
  ex : ∃ f fd g, mg name = some (.ref f) ∧ FnG P w K mg base CX k f fd ps sp ∧ PySem.W.keepIn K (.ref f) = true ∧ KBinds K fd ps ks g gV
section
variable {X : Cx} {CX : CXT} {k : Nat} {ps ks : List Str} {gV : List V → List V → List V} {sp : Sp} {x : Str} {p pos : Pos} {e : Expr} {es : List Expr} {kws : List Keyword} {t tk : TA} {E : XK}
theorem pe_fK0 (G : DefK X.prog X.w X.K X.mg X.base CX x k ps ks gV sp) (hr : RoomG k X.A) (hg : Gl X x) (hx : Passes CX X E) (hkw : PK X kws tk)
    (hall : (backToKw pos (keywordEach kws X.env)).all (·.1.isSome) = true := by rfl) (hks : (backToKw pos (keywordEach kws X.env)).filterMap (·.1) = ks := by rfl) (hdb : (x == ("__debug__" : Str)) = false := by decide)
    (hpl : ((backTo pos (starEach [] X.env)).any (·.1) || (backToKw pos (keywordEach kws X.env)).any (·.1.isNone)) = false := by rfl) :
    PE X (.Call (.Name x p) [] kws pos) (tCallK sp gV E tNil tk) := by
  obtain ⟨f, fd, g, m, F, kp, b⟩ := G.ex
  refine ⟨fun pins s σ H Q I h => wpAny_Call_Name_kw (ld_glob I hg m (PySem.W.callWith_KW0 (h₀ := X.base) I.ok.mod.kin kp hall ?_ hpl) hdb)⟩
  refine thn (hkw.run pos pins s σ H _ I h) fun ws z ⟨zs, G, J, rz, q⟩ => ⟨J.kIn, ?_⟩
  rw [hks]
  exact run_gk F hr b hx J .nil rz q
theorem pe_fK (G : DefK X.prog X.w X.K X.mg X.base CX x k ps ks gV sp) (hr : RoomG k X.A) (hg : Gl X x) (hx : Passes CX X E) (ha : PA X (e :: es) t) (hkw : PK X kws tk)
    (hall : (backToKw pos (keywordEach kws X.env)).all (·.1.isSome) = true := by rfl) (hks : (backToKw pos (keywordEach kws X.env)).filterMap (·.1) = ks := by rfl) (hdb : (x == ("__debug__" : Str)) = false := by decide)
    (he : starEach (e :: es) X.env = (false, eval e X.env) :: starEach es X.env := by rfl)
    (hpl : ((backTo pos (starEach (e :: es) X.env)).any (·.1) || (backToKw pos (keywordEach kws X.env)).any (·.1.isNone)) = false := by rfl) :
    PE X (.Call (.Name x p) (e :: es) kws pos) (tCallK sp gV E t tk) := by
  obtain ⟨f, fd, g, m, F, kp, b⟩ := G.ex
  refine ⟨fun pins s σ H Q I h => wpAny_Call_Name_kw (ld_glob I hg m ?_ hdb)⟩
  refine PySem.W.callWith_KW (h₀ := X.base) I.ok.mod.kin kp hall (thn (ha.run pos pins s σ H _ I h) fun us z ⟨vs, G, J, r, q⟩ => ?_) hpl he
  refine thn (hkw.run pos pins z σ G _ J q) fun ws z2 ⟨zs, G2, J2, rz, q2⟩ => ⟨J2.kIn, ?_⟩
  rw [hks]
  exact run_gk F hr b hx J2 r rz q2
end
theorem FnG.no {P : Program} {w : World} {K : PySem.W.Frag} {mg : Str → Option Value} {base : Heap} {CX : CXT} {k : Nat} {f : Addr} {fd : FuncData} {ps : List Str} {sp : Sp} (h : ∀ vs H Q E, sp vs H Q E → False) : FnG P w K mg base CX k f fd ps sp :=
  ⟨fun vs H Q E y => (h vs H Q E y).elim, fun _ _ _ H _ _ vs Q E _ _ _ _ y => (h vs H Q E y).elim⟩
theorem FnG.mono {P : Program} {w : World} {K : PySem.W.Frag} {mg : Str → Option Value} {base : Heap} {CX : CXT} {j k : Nat} {f : Addr} {fd : FuncData} {ps : List Str} {sp : Sp} (F : FnG P w K mg base CX j f fd ps sp) (h : j ≤ k) : FnG P w K mg base CX k f fd ps sp :=
  ⟨F.ln, fun A ou z H ar us vs Q E hr => F.go A ou z H ar us vs Q E (hr.mono h)⟩
/-- what stands in a class of the text -/
def clsB : Stmt → List Stmt := fun
  | .ClassDef (body := bd) .. => bd
  | _ => []
/-! ### an own class: made by its name, fields read -/
structure ClsF (K : PySem.W.Frag) (C : Addr) (fs : List Str) : Prop where
  cl : Cls K C
  na : ∀ f ∈ fs, NoAttr K C f
/-- the class by its name -/
structure ClsN (K : PySem.W.Frag) (x : Str) (C : Addr) (fs : List Str) : Prop extends ClsF K C fs where
  nm : PySem.W.nsIn K mainGlobals x = some (some (.ref C))
theorem ClsN.uniq {K : PySem.W.Frag} {x : Str} {C D : Addr} {fs gs : List Str} (a : ClsN K x C fs) (b : ClsN K x D gs) : C = D := by
  have e := a.nm.symm.trans b.nm
  cases e
  rfl
theorem mk_guards {A : Around} {C : Addr} {us : List Value} {kw : List (Str × Value)} (g : A.guards = some []) : (A.under (.builtin "type.__call__" ⟨.ref C :: us, kw⟩)).guards = some [] := by
  first | exact g | (simp [Around.under, Code.guards, Code.isGuard, guardIds, pushGuards, g])
theorem RoomG.mk2 {k : Nat} {A : Around} (r : RoomG (k + 1) A) (C : Addr) (us : List Value) : RoomG k (A.under (.builtin "type.__call__" ⟨.ref C :: us, []⟩)) := ⟨r.rm.make C us [], mk_guards r.gd, by have := r.un; rw [make_units]; omega⟩
structure DefM (P : Program) (w : World) (K : PySem.W.Frag) (mg : Str → Option Value) (base : Heap) (CX : CXT) (name : Str) (k : Nat) (ps : List Str) (sp : Sp) (C : Addr) : Prop where
  ex : ∃ f fd, mg name = some (.ref C) ∧ Mk K C f ∧ FnG P w K mg base CX k f fd ps sp ∧ Binds K fd ps []
theorem run_mkG {X : Cx} {CX : CXT} {k : Nat} {f C : Addr} {fd : FuncData} {ps : List Str} {sp : Sp} {E : XK} {pins : List (Addr × Obj)} {σ : L2.St} {H : Hp} {s : Shared} {Q : VK} {us : List Value} {vs : List V} (M : Mk X.K C f)
    (F : FnG X.prog X.w X.K X.mg X.base CX k f fd ps sp) (hr : RoomG (k + 1) X.A) (hb : Binds X.K fd ps []) (hx : Passes CX X E) (I : Inv X pins σ H s) (r : Vals vs us)
    (h : ∀ x dx, H x = none → H dx = none → dx ≠ x → sp (.ref x :: (vs ++ [])) (upd (upd H dx (.own x)) x (.ins C dx [])) (fun v H2 => v = .non ∧ Q (.ref x) H2) E) : wpAny (model X.prog X.w) X.A (call (.ref C) us) (EP X pins σ Q) X.xe s := by
  have hq := h (s.heap.objs.size + 1) s.heap.objs.size (I.hok.fresh (Nat.le_succ _)) (I.hok.fresh (Nat.le_refl _)) (Nat.ne_of_lt (Nat.lt_succ_self _))
  have J := Inv.made (C := C) I
  have q : Vals (V.ref (s.heap.objs.size + 1) :: (vs ++ [])) (Value.ref (s.heap.objs.size + 1) :: (us ++ [])) := .cons rfl (r.append .nil)
  have hl : (Value.ref (s.heap.objs.size + 1) :: us ++ []).length = ps.length := q.length.symm.trans (F.ln _ _ _ _ hq)
  have run := F.go _ X.stack _ _ ⟨Value.ref (s.heap.objs.size + 1) :: us, []⟩ (Value.ref (s.heap.objs.size + 1) :: (us ++ [])) _ _ E (hr.mk2 C us) (J.env0.make C us []) (by rw [← List.cons_append]; exact hb _ (Value.ref (s.heap.objs.size + 1) :: us) J.kIn hl) q hq
  refine wpAny_call (make_map (f := f) I.kIn M.makes M.init (beq_iff_eq.mp M.fn) (codeAny_mono run fun r z y => ?_))
  match r, y with
  | .error e, y => exact hx pins σ _ _ e z J y
  | .ok .next, y => exact y.elim
  | .ok .brk, y => exact y.elim
  | .ok .cont, y => exact y.elim
  | .ok (.ret u), y =>
    obtain ⟨v, G, J2, rv, ev, q3⟩ := J.after y
    subst ev
    exact ⟨rv, ⟨V.ref (s.heap.objs.size + 1), G, J2, rfl, q3⟩⟩
theorem pe_mk {X : Cx} {CX : CXT} {k : Nat} {ps : List Str} {sp : Sp} {x : Str} {C : Addr} {p pos : Pos} {e : Expr} {es : List Expr} {t : TA} {E : XK} (G : DefM X.prog X.w X.K X.mg X.base CX x k ps sp C) (hr : RoomG (k + 1) X.A) (hg : Gl X x) (hx : Passes CX X E) (ha : PA X (e :: es) t)
    (hdb : (x == ("__debug__" : Str)) = false := by decide) (he : starEach (e :: es) X.env = (false, eval e X.env) :: starEach es X.env := by rfl) (hpl : (backTo pos (starEach es X.env)).any (·.1) = false := by rfl) :
    PE X (.Call (.Name x p) (e :: es) [] pos) (tMake C sp [] E t) := by
  obtain ⟨f, fd, m, M, F, b⟩ := G.ex
  refine ⟨fun pins s σ H Q I h => wpAny_Call_Name_kw (ld_glob I hg m ?_ hdb)⟩
  exact PySem.W.callWith_K (h₀ := X.base) I.ok.mod.kin M.kp (thn (ha.run pos pins s σ H _ I h) fun us z ⟨vs, G, J, r, q⟩ => ⟨J.kIn, run_mkG M F hr b hx J r q⟩) he hpl
/-! ### own methods -/
structure DefO (P : Program) (w : World) (K : PySem.W.Frag) (mg : Str → Option Value) (base : Heap) (CX : CXT) (C : Addr) (nm : Str) (k : Nat) (ps : List Str) (sp : Sp) : Prop where
  ex : ∃ f fd, PySem.W.findIn K (.ref C) nm = some (some (.ref f)) ∧ PySem.W.isFn K (.ref f) = true ∧ FnG P w K mg base CX k f fd ps sp ∧ Binds K fd ps []
theorem run_gA {X : Cx} {CX : CXT} {k : Nat} {f : Addr} {fd : FuncData} {ps : List Str} {sp : Sp} {E : XK} {pins : List (Addr × Obj)} {σ : L2.St} {H : Hp} {s : Shared} {Q : VK} {us : List Value} {vs : List V} {A : Around}
    (F : FnG X.prog X.w X.K X.mg X.base CX k f fd ps sp) (hr : RoomG k A) (fr : A.frames = X.A.frames) (hb : Binds X.K fd ps []) (hx : Passes CX X E) (I : Inv X pins σ H s) (r : Vals vs us) (h : sp vs H Q E) : wpAny (model X.prog X.w) A (call (.ref f) us) (EP X pins σ Q) X.xe s := by
  have e0 : Env0 X.prog X.w X.K X.mg X.base A X.stack s H := by
    have e := I.env0
    exact ⟨by rw [fr]; exact e.frames, e.mod, e.bs, e.bsz, e.funs, e.frf, e.hok, e.bare⟩
  have q := r.append (show Vals [] [] from .nil)
  have h : sp (vs ++ []) H Q E := by rw [List.append_nil]; exact h
  exact wpAny_call (codeAny_mono (F.go A X.stack s H ⟨us, []⟩ (us ++ []) (vs ++ []) Q E hr e0 (hb s us I.kIn (q.length.symm.trans (F.ln _ _ _ _ h))) q h) fun _ _ y => aft hx I y)
theorem cmpBack {X : Cx} {pins : List (Addr × Obj)} {σ : L2.St} {Q : VK} {u : Value} {s : Shared} (h : EP X pins σ Q u s) : PySem.W.CmpBack (EP X pins σ Q) u s := by
  obtain ⟨v, H', I, r, q⟩ := id h
  cases u <;> first | exact h | (exfalso; cases v <;> first | (cases r; done) | (obtain ⟨_, e⟩ := r; cases e))
/-- x == y of one class with an == of its own -/
def rEqO (C : Addr) (sp : Sp) (E : XK) : R2 := fun x y H Q => ∃ a b dx dy fs gs, x = .ref a ∧ y = .ref b ∧ H a = some (.ins C dx fs) ∧ H b = some (.ins C dy gs) ∧ sp [.ref a, .ref b] H Q E
theorem op_eqO {X : Cx} {CX : CXT} {C : Addr} {n : Nat} {ps : List Str} {sp : Sp} {E : XK} (G : DefO X.prog X.w X.K X.mg X.base CX C "__eq__" n ps sp) (hr : RoomG n X.A) (hx : Passes CX X E) : OpR X (compareOp .Eq) (rEqO C sp E) := by
  obtain ⟨f, fd, hs, hf, F, hb⟩ := G.ex
  intro pins s σ H x y v u Q I rx ry h
  obtain ⟨a, b, dx, dy, fs, gs, rfl, rfl, ha, hb', h⟩ := h
  cases rx
  cases ry
  obtain ⟨mA, J, _⟩ := ins_get I.hok ha
  obtain ⟨mB, J', _⟩ := ins_get I.hok hb'
  obtain ⟨od, J, _⟩ := J.look
  obtain ⟨od', J', _⟩ := J'.look
  obtain ⟨m, hF⟩ := I.fr
  show wpAny (model X.prog X.w) X.A (richCompare .Eq (.ref a) (.ref b)) (EP X pins σ Q) X.xe s
  refine PySem.W.cmp_K (op := .Eq) (tb := .ref C) (by have := hr.units; omega) hF I.ok.mod.kin J J'.type (by simp [PySem.W.notFirst]) hs hf ?_
  exact wpAny_mono (run_gA F hr rfl hb hx I (show Vals [V.ref a, V.ref b] [Value.ref a, Value.ref b] from .cons rfl (.cons rfl .nil)) h) (fun r z q => cmpBack q) fun _ _ e => e
theorem w_eqO {C a b dx dy : Addr} {fs gs : List (Str × V)} {sp : Sp} {E : XK} {H : Hp} {Q : VK} (ha : H a = some (.ins C dx fs)) (hb : H b = some (.ins C dy gs)) (k : sp [.ref a, .ref b] H Q E) : rEqO C sp E (.ref a) (.ref b) H Q := ⟨a, b, dx, dy, fs, gs, rfl, rfl, ha, hb, k⟩
/-! x != y: the contrary of the own == -/
section
variable {prog : Program} {w : World} {A : Around} {E : Value → Shared → Prop} {s : Shared} {K : PySem.W.Frag} {x C L f : Addr} {h₀ : Heap} {m : Str → Option Value} {ox : Obj} {od : Option Obj} {b tb : Value}
theorem ifBound_ne {M : Model} {args : List Value} {Q : Option Value → Shared → Prop} (X : K.In s.heap) (I : PySem.W.InstAt s.heap x ox C od) (hs : PySem.W.findIn K (.ref C) "__ne__" = some (some (.builtin "object.__ne__")))
    (h : wpAny M A (call (.builtin "object.__ne__") (.ref x :: args)) (fun v => Q (some v)) E s) : wpAny M A (callSpecialIfBound? (.ref x) "__ne__" args) Q E s := by
  simp only [callSpecialIfBound?, bindSpecialIfBound?]
  refine PySem.wpAny_holding (PySem.wpAny_bind (PySem.wpAny_bind (PySem.wpAny_bind (I.type.here ((PySem.W.looks_findIn X hs).here ?_)))))
  refine PySem.wpAny_bind (PySem.wpAny_askSetting (PySem.wpAny_ite ?_))
  have fin : wpAny M A (call (.builtin "object.__ne__") ([.ref x] ++ args) >>= fun v => pure (some v)) Q E s := PySem.wpAny_bind (wpAny_mono h (fun v s' h' => PySem.wpAny_pure h') fun _ _ h' => h')
  split
  · exact PySem.wpAny_bind (wpAny_of_eq (PySem.F.cmp_object.ne.bind _) (PySem.wpAny_pure (by exact fin)))
  · exact PySem.wpAny_tryCatch (PySem.wpAny_bind (wpAny_of_eq (PySem.F.cmp_object.ne.bind _) (PySem.wpAny_pure (by exact fin))))
def NeBack (Q : Value → Shared → Prop) (v : Value) (s' : Shared) : Prop := match v with
  | .bool k => Q (.bool (!k)) s'
  | _ => False
theorem ne_K {Q : Value → Shared → Prop} (hu : A.units + 2 < cLine) (F : Fr h₀ L s.heap m) (X₀ : K.In h₀) (I : PySem.W.InstAt s.heap x ox C od) (hb : PySem.W.Looks (model prog w) s.heap (typeOf b) tb) (hn : PySem.W.notFirst K C tb = true) (hm : PySem.W.mroIn K C (.type "object") = some true)
    (hne : PySem.W.findIn K (.ref C) "__ne__" = some (some (.builtin "object.__ne__"))) (hs : PySem.W.findIn K (.ref C) "__eq__" = some (some (.ref f))) (hf : PySem.W.isFn K (.ref f) = true)
    (h : wpAny (model prog w) A.in1 (call (.ref f) [.ref x, b]) (NeBack Q) E s) : wpAny (model prog w) A (richCompare .NotEq (.ref x) b) Q E s := by
  have X := X₀.keeps F.keep
  have one : wpAny (model prog w) A (tryCompare (.ref x) (cmpInfo .NotEq).2.1 b) (fun r s' => ∃ v, r = some v ∧ Q v s') E s := by
    unfold tryCompare
    refine PySem.wpAny_bind (ifBound_ne X I hne ?_)
    refine wpAny_call (codeAny_call_builtin PySem.F.cmp_object.ne.plain PySem.F.cmpEntry_ne (PySem.W.check_slot PySem.F.cmpKind_ne PySem.F.cmpSplit_ne (I.type.andThen (PySem.W.looks_mroIn X hm)) (PySem.F.cmpArgs_ne _ _) ?_))
    unfold Builtin.«object.__ne__»
    refine PySem.wpAny_bind (m := slotArgs "__ne__" 1 _) (PySem.wpAny_pure ?_)
    refine PySem.wpAny_bind (m := cRoomFor _ _) (wpAny_cRoomFor (by show A.units + 1 < cLine; omega) ?_)
    refine PySem.wpAny_bind (m := callSpecialIfBound? (.ref x) (Str.ofString "__eq__") _) (PySem.W.ifBound_K X I hs hf (wpAny_mono h (fun r s' hq => ?_) fun _ _ e => e))
    cases r <;> first | exact hq.elim | skip
    rename_i k
    refine PySem.wpAny_bind (wpAny_truthy_bool ?_)
    exact PySem.wpAny_pure (PySem.wpAny_pure ⟨_, rfl, hq⟩)
  unfold richCompare
  simp only [oneThing_ref]
  refine PySem.wpAny_holding (PySem.wpAny_bind (wpAny_cRoomFor (by omega) ?_))
  refine PySem.wpAny_bind (I.type.here (PySem.wpAny_bind (hb.here ?_)))
  split
  · rename_i q
    have e : PySem.W.subIn K tb (.ref C) = some false := by
      rcases Bool.or_eq_true_iff.mp hn with e | e
      · rw [beq_iff_eq.mp e] at q; simp at q
      · exact beq_iff_eq.mp e
    refine PySem.wpAny_bind ((PySem.W.looks_subIn X e).here ?_)
    simp only [Bool.false_eq_true, if_false]
    refine PySem.wpAny_bind (wpAny_mono one (fun r s' z => ?_) fun _ _ e => e)
    obtain ⟨v, rfl, hq⟩ := z
    exact PySem.wpAny_pure hq
  · refine PySem.wpAny_bind (PySem.wpAny_pure ?_)
    simp only [Bool.false_eq_true, if_false]
    refine PySem.wpAny_bind (wpAny_mono one (fun r s' z => ?_) fun _ _ e => e)
    obtain ⟨v, rfl, hq⟩ := z
    exact PySem.wpAny_pure hq
end
def rNeO (C : Addr) (sp : Sp) (E : XK) : R2 := fun x y H Q => ∃ a b dx dy fs gs, x = .ref a ∧ y = .ref b ∧ H a = some (.ins C dx fs) ∧ H b = some (.ins C dy gs) ∧ sp [.ref a, .ref b] H (fun v H' => ∃ k, v = .bl k ∧ Q (.bl (!k)) H') E
theorem op_neO {X : Cx} {CX : CXT} {C : Addr} {n : Nat} {ps : List Str} {sp : Sp} {E : XK} (G : DefO X.prog X.w X.K X.mg X.base CX C "__eq__" n ps sp) (hne : PySem.W.findIn X.K (.ref C) "__ne__" = some (some (.builtin "object.__ne__"))) (hm : PySem.W.mroIn X.K C (.type "object") = some true) (hr : RoomG (n + 1) X.A) (hx : Passes CX X E) : OpR X (compareOp .NotEq) (rNeO C sp E) := by
  obtain ⟨f, fd, hs, hf, F, hb⟩ := G.ex
  intro pins s σ H x y v u Q I rx ry h
  obtain ⟨a, b, dx, dy, fs, gs, rfl, rfl, ha, hb', h⟩ := h
  cases rx
  cases ry
  obtain ⟨mA, J, _⟩ := ins_get I.hok ha
  obtain ⟨mB, J', _⟩ := ins_get I.hok hb'
  obtain ⟨od, J, _⟩ := J.look
  obtain ⟨od', J', _⟩ := J'.look
  obtain ⟨m, hF⟩ := I.fr
  show wpAny (model X.prog X.w) X.A (richCompare .NotEq (.ref a) (.ref b)) (EP X pins σ Q) X.xe s
  refine ne_K (tb := .ref C) (by have := hr.units; omega) hF I.ok.mod.kin J J'.type (by simp [PySem.W.notFirst]) hm hne hs hf ?_
  refine wpAny_mono (run_gA F hr.in1 rfl hb hx I (show Vals [V.ref a, V.ref b] [Value.ref a, Value.ref b] from .cons rfl (.cons rfl .nil)) h) (fun r z q => ?_) fun _ _ e => e
  obtain ⟨v, H', I', rv, k, rfl, q⟩ := q
  obtain rfl : r = Value.bool k := rv
  exact ⟨.bl (!k), H', I', rfl, q⟩
theorem w_neO {C a b dx dy : Addr} {fs gs : List (Str × V)} {sp : Sp} {E : XK} {H : Hp} {Q : VK} (ha : H a = some (.ins C dx fs)) (hb : H b = some (.ins C dy gs)) (k : sp [.ref a, .ref b] H (fun v H' => ∃ k, v = .bl k ∧ Q (.bl (!k)) H') E) : rNeO C sp E (.ref a) (.ref b) H Q := ⟨a, b, dx, dy, fs, gs, rfl, rfl, ha, hb, k⟩
/-- data of any depth -/
def rEqDD (K : PySem.W.Frag) : R2 := fun x y H Q => ∃ d e, Dp K H x d ∧ Dp K H y e ∧ d.canLay0 = true ∧ e.canLay0 = true ∧ d.depth ≤ 3000 ∧ Q (.bl (PyData.eqv d e)) H
def rNeDD (K : PySem.W.Frag) : R2 := fun x y H Q => ∃ d e, Dp K H x d ∧ Dp K H y e ∧ d.canLay0 = true ∧ e.canLay0 = true ∧ d.depth ≤ 3000 ∧ Q (.bl (!PyData.eqv d e)) H
theorem op_eqDD {X : Cx} {K : PySem.W.Frag} (hK : X.K = K) (hu : X.A.units + 5000 < cLine) : OpR X (compareOp .Eq) (rEqDD K) := by
  subst hK
  intro pins s σ H x y v u Q I rx ry h
  obtain ⟨d, e, hd, he, sd, se, dp, q⟩ := h
  obtain ⟨as, r1⟩ := Dp.reads I d x v hd rx
  obtain ⟨bs, r2⟩ := Dp.reads I e y u he ry
  exact SeqAt.compareEq_reads r1 r2 sd se (by omega) ⟨.bl _, H, I, rfl, q⟩
theorem op_neDD {X : Cx} {K : PySem.W.Frag} (hK : X.K = K) (hu : X.A.units + 5000 < cLine) : OpR X (compareOp .NotEq) (rNeDD K) := by
  subst hK
  intro pins s σ H x y v u Q I rx ry h
  obtain ⟨d, e, hd, he, sd, se, dp, q⟩ := h
  obtain ⟨as, r1⟩ := Dp.reads I d x v hd rx
  obtain ⟨bs, r2⟩ := Dp.reads I e y u he ry
  exact SeqAt.compareNe_reads r1 r2 sd se (by omega) ⟨.bl _, H, I, rfl, q⟩
/-! isinstance of a class of one's own -/
structure ClsO (K : PySem.W.Frag) (C : Addr) : Prop where
  ne : PySem.W.findIn K (.ref C) "__ne__" = some (some (.builtin "object.__ne__"))
  mo : PySem.W.mroIn K C (.type "object") = some true
  kc : PySem.W.findIn K (.ref C) "__class__" = some (some (.builtin "object.__class__"))
  kg : PySem.W.specialIn K (.builtin "object.__class__") "__get__" = some (some (.builtin "getset_descriptor.__get__"))
  kt : PySem.W.takesIn K (.builtin "object.__class__") = some true
  ki : PySem.W.kitOne K (.ref C) (.ref C) = some true
theorem w_isiOwn {K : PySem.W.Frag} {H : Hp} {Q : VK} {a C dx : Addr} {fs : List (Str × V)} (h : H a = some (.ins C dx fs)) (cl : Cls K C) (o : ClsO K C) (k : Q (.bl true) H) : rIsi K [.ref a, .ref C] H Q := ⟨_, _, _, _, _, rfl, .own C, .base (.ins h cl o.kc o.kg o.kt o.mo), o.ki, k⟩
/-- a dict of the module has these texts as keys -/
def KDs (K : PySem.W.Frag) (w : World) (a : Addr) (ks : List Str) : Prop := (a == sysModules) = false ∧ ∀ z ∈ ks, ∃ v, KDct K w a z v
/-- a dict of the module: texts, each with a tuple of texts -/
def KDt (K : PySem.W.Frag) (w : World) (a : Addr) (l : List (Str × List Str)) : Prop := (a == sysModules) = false ∧ ∀ z ∈ l, ∃ t, KDct K w a z.1 (.ref t) ∧ ∀ H, SqT K H t (z.2.map V.str)
def tKGet (K : PySem.W.Frag) (w : World) (td ty : TE) : TE := fun σ H Q => td σ H fun x H1 => ty σ H1 fun y H2 => ∃ a z v, x = .ref a ∧ y = .str z ∧ (a == sysModules) = false ∧ KDct K w a z v ∧ Q v H2
theorem pe_kget {X : Cx} {o i : Expr} {pos : Pos} {td ty : TE} (ho : PE X o td) (hi : PE X i ty) (hs : NoSl i) : PE X (.Subscript o i pos) (tKGet X.K X.w td ty) := by
  refine ⟨fun pins s σ H Q I h => ?_⟩
  refine subD_of PySem.F.slot_dict_getitem.lookup hs (thn (ho.run pins s σ H _ I h) fun u s1 ⟨x, H1, I1, rx, q1⟩ => thn (hi.run pins s1 σ H1 _ I1 q1) fun iv s2 ⟨y, H2, I2, ry, a, z, v, ex, ey, low, ⟨es, n, u0, hl, hk, e, ru⟩, q2⟩ => ?_)
  subst ex
  subst ey
  obtain rfl : u = Value.ref a := rx
  obtain ⟨t, rfl⟩ := (show ∃ t, iv = Value.str z t from ry)
  refine ⟨⟨_, I2.kIn _ _ hl, rfl⟩, wpAny_getItem_of (strKind_is X.prog X.w z t) (PySem.W.mapOf_K (prog := X.prog) (w := X.w) I2.kIn hl hk) ((PySem.W.find_K hl e)) ⟨v, H2, I2.tok _, ru, q2⟩⟩
def tNiK (K : PySem.W.Frag) (w : World) (ty td : TE) : TE := fun σ H Q => ty σ H fun y H1 => td σ H1 fun x H2 => ∃ a z v, x = .ref a ∧ y = .str z ∧ (a == sysModules) = false ∧ KDct K w a z v ∧ Q (.bl false) H2
theorem pc_niK {X : Cx} {i o : Expr} {ty td : TE} (hi : PE X i ty) (ho : PE X o td) : PC X .NotIn i o (tNiK X.K X.w ty td) := by
  refine ⟨fun pins s σ H Q I h => ?_⟩
  refine thn (hi.run pins s σ H _ I h) fun iv s1 ⟨y, H1, I1, ry, q1⟩ => thn (ho.run pins s1 σ H1 _ I1 q1) fun u s2 ⟨x, H2, I2, rx, a, z, v, ex, ey, low, ⟨es, n, u0, hl, hk, e, ru⟩, q2⟩ => ?_
  subst ex
  subst ey
  obtain rfl : u = Value.ref a := rx
  obtain ⟨t, rfl⟩ := (show ∃ t, iv = Value.str z t from ry)
  have hm := PySem.W.mapOf_K (prog := X.prog) (w := X.w) I2.kIn hl hk
  refine wpAny_notIn_of (strKind_is X.prog X.w z t) low hm ?_
  rw [PySem.W.find_K hl e]
  exact ⟨.bl false, H2, I2.tok _, rfl, q2⟩
/-! ### the top: the law is called where nothing is being shown -/
theorem top_core {P : Program} {w : World} {K : PySem.W.Frag} {mg mb : Str → Option Value} {CX : CXT} {k : Nat} {fa a : Addr} {fd : FuncData} {x : Str} {sp : Sp} {z : Shared} {vs : List Value} {ns : List Int} (kz : K.In z.heap) (g1 : z.heap.Ns mainGlobals mg) (g2 : z.heap.Ns builtinsNs mb)
    (g3 : ∀ y : Str, y ≠ "__name__" → mb y = bootBuiltins y) (lim : z.heap.NoLimit) (gn : z.gens = #[]) (ha : z.heap.get? a = some { cls := .type "list", data := .seq vs.toArray }) (hr : RoomG k callerA)
    (F : ∀ base : Heap, K.In base → base.Ns mainGlobals mg → FnG P w K mg base CX k fa fd [x] sp) (hb : ∀ (s : Shared) (u : Value), BindsTo s fd ⟨[u], []⟩ [(x, u)]) (hCX : ∀ H e s', CX [] H z (fun _ _ _ => False) e s' → False)
    (H : Hp) (hO : Only H) (hsp : sp [.ref a] H (fun v _ => v = .bl true) fun _ _ _ => False) (ok : HOk P w H z.heap) (hA : ∀ b, H b ≠ none → b = a) (hK : H a ≠ none → K.lookup a = none) :
    codeAny (model P w) callerA (.call (.ref fa) ⟨[.ref a], []⟩) (fun r s' => r = .ok (.ret (.bool true)) ∧ OldK z.heap s'.heap ∧ s'.os = z.os ∧ AllBare s'.gens) z := by
  have non : ∀ {b : Addr} {o : Obj} {es : Array DictEntry} {ep : Nat}, z.heap.get? b = some o → o.data = .dict es ep → H b = none := by
    intro b o es ep e d
    refine Classical.byContradiction fun q => ?_
    have eb := hA b q
    subst eb
    rw [ha] at e
    cases e
    cases (show Data.seq vs.toArray _ = Data.dict es ep from d)
  have nk : ∀ {b : Addr} {m : Str → Option Value}, z.heap.Ns b m → (hidT z.heap H).Ns b m := by
    rintro b m ⟨o, es, ep, e, d, r⟩
    exact ⟨o, es, ep, hidT_get e (non e d), d, r⟩
  have kb : K.In (hidT z.heap H) := by
    intro b o e
    refine hidT_get (kz b o e) (Classical.byContradiction fun q => ?_)
    have eb := hA b q
    subst eb
    rw [hK q] at e
    cases e
  have hM : Mod K mg (hidT z.heap H) := ⟨kb, nk g1, ⟨mb, nk g2, g3⟩, lim.elim fun mc h => ⟨mc, nk h.1, h.2⟩⟩
  have e0 : Env0 P w K mg (hidT z.heap H) callerA [] z H := ⟨rfl, hM, fun b o e => of_hidT e, Nat.le_of_eq (hidT_size _ _), trivial, (by intro b hb; cases (show b ∈ ([] : List Addr) from hb)), ok, .of_eq gn⟩
  refine codeAny_mono ((F _ kb (nk g1)).go callerA [] z H ⟨[.ref a], []⟩ [.ref a] [.ref a] _ _ hr e0 (hb z (.ref a)) (.cons rfl .nil) hsp) fun r s' h => ?_
  match r, h with
  | .error e, h => exact (hCX H e s' h).elim
  | .ok .next, h => exact h.elim
  | .ok .brk, h => exact h.elim
  | .ok .cont, h => exact h.elim
  | .ok (.ret u), h =>
    obtain ⟨v, G, os, bare, un, ok', rv, q⟩ := h
    have q : v = .bl true := q
    subst q
    obtain rfl : u = Value.bool true := rv
    refine ⟨rfl, OldK.of_keep fun b o e => ?_, os, bare⟩
    rcases hO b with y | ⟨ob, xs, y⟩
    · exact un.keep b o e y (by intro n; cases (show b ∈ ([] : List Addr) from n)) (by simp)
    · obtain ⟨e1, _⟩ := ok b _ y
      obtain ⟨e2, _⟩ := ok' b _ (un.frzs b ob _ y)
      rw [e] at e1
      cases e1
      exact e2
theorem top_run {P : Program} {w : World} {K : PySem.W.Frag} {mg mb : Str → Option Value} {CX : CXT} {k : Nat} {fa a : Addr} {fd : FuncData} {x : Str} {sp : Sp} {z : Shared} {vs : List Value} {ns : List Int} (kz : K.In z.heap) (g1 : z.heap.Ns mainGlobals mg) (g2 : z.heap.Ns builtinsNs mb)
    (g3 : ∀ y : Str, y ≠ "__name__" → mb y = bootBuiltins y) (lim : z.heap.NoLimit) (gn : z.gens = #[]) (ha : z.heap.get? a = some { cls := .type "list", data := .seq vs.toArray }) (hi : IntsAre vs ns) (hl : ns.length ≤ sizeLine) (hr : RoomG k callerA)
    (F : ∀ base : Heap, K.In base → base.Ns mainGlobals mg → FnG P w K mg base CX k fa fd [x] sp) (hb : ∀ (s : Shared) (u : Value), BindsTo s fd ⟨[u], []⟩ [(x, u)]) (hCX : ∀ H e s', CX [] H z (fun _ _ _ => False) e s' → False)
    (hsp : ∀ H : Hp, Only H → SqL K H a (ns.map V.int) → sp [.ref a] H (fun v _ => v = .bl true) fun _ _ _ => False) :
    codeAny (model P w) callerA (.call (.ref fa) ⟨[.ref a], []⟩) (fun r s' => r = .ok (.ret (.bool true)) ∧ OldK z.heap s'.heap ∧ s'.os = z.os ∧ AllBare s'.gens) z := by
  have rv := vals_ints hi
  have le := hi.length
  cases hk : K.lookup a with
  | some o =>
    have e := kz a o hk
    rw [ha] at e
    cases e
    have hO : Only (fun _ => none) := fun _ => .inl rfl
    exact top_core (ns := ns) kz g1 g2 g3 lim gn ha hr F hb hCX _ hO (hsp _ hO (.inr ⟨_, vs.toArray, _, hk, rfl, rfl, rfl, (by rw [List.size_toArray, le]; exact hl), (by simpa using rv)⟩)) (by intro b u y; cases (show (none : Option HO) = some u from y)) (by intro b y; exact absurd rfl y) (by intro y; exact absurd rfl y)
  | none =>
    have h1 : ∀ b u, (if b = a then some (HO.frz { cls := .type "list", data := .seq vs.toArray } (.lst (ns.map V.int))) else none) = some u → b = a ∧ u = HO.frz { cls := .type "list", data := .seq vs.toArray } (.lst (ns.map V.int)) := by
      intro b u y
      by_cases n : b = a
      · rw [if_pos n] at y
        cases y
        exact ⟨n, rfl⟩
      · rw [if_neg n] at y
        cases y
    have hO : Only (fun b => if b = a then some (HO.frz { cls := .type "list", data := .seq vs.toArray } (.lst (ns.map V.int))) else none) := fun b => by
      by_cases n : b = a
      · exact .inr ⟨_, _, if_pos n⟩
      · exact .inl (if_neg n)
    refine top_core (ns := ns) kz g1 g2 g3 lim gn ha hr F hb hCX _ hO (hsp _ hO (.inl (.inr ⟨{ cls := .type "list", data := .seq vs.toArray }, if_pos rfl⟩))) (fun b u y => ?_) (fun b y => ?_) (fun _ => hk)
    · obtain ⟨rfl, rfl⟩ := h1 b u y
      exact ⟨ha, by rw [List.length_map]; exact hl, vs, _, rv, ha⟩
    · by_cases n : b = a
      · exact n
      · exact absurd (if_neg n) y
theorem walk_g {l : PySem.W.OpenLaw} {n k : Nat} {q : Program} {loose : List Str} {XP : (Str → Option Value) → Heap → Prop} {YP : World → Heap → Prop} {d : DefRec} {K : Params → PySem.W.Frag} {CX : World → CXT} {sp : World → Sp} {x : Str}
    (hn : l.most = some n) (hn2 : n ≤ sizeLine) (hdf : d.params.defaults = []) (hr : RoomG k callerA) (hY : ∀ (w : World) (h : Heap), YP w h → (K w.params).In h)
    (F : ∀ (w : World) (mg : Str → Option Value) (fa : Addr) (h : Heap), (K w.params).In h → h.Ns mainGlobals mg → mg d.name = some (.ref fa) → ∃ fd : FuncData, (∀ (s : Shared) (u : Value), BindsTo s fd ⟨[u], []⟩ [(x, u)]) ∧
        ∀ base : Heap, (K w.params).In base → base.Ns mainGlobals mg → FnG l.prog w (K w.params) mg base (CX w) k fa fd [x] (sp w))
    (hsp : ∀ (w : World) (H : Hp) (a : Addr) (ns : List Int), ns.length ≤ n → Only H → SqL (K w.params) H a (ns.map V.int) → sp w [.ref a] H (fun v _ => v = .bl true) fun _ _ _ => False)
    (hCX : ∀ (w : World) (H : Hp) (s : Shared) (e : Value) (s' : Shared), CX w [] H s (fun _ _ _ => False) e s' → False) :
    PySem.W.WalkO q loose XP YP l.row.toRowW d [] (fun f vs => PySem.call f vs) := by
  refine Att.attach_call hn hdf fun w s0 z mg mb fa o pm cd dc a vs ns G Y ho hd hcd hmg hobj hi hl hg => ?_
  have kz := hY w _ Y
  obtain ⟨fd, hb, hF⟩ := F w mg fa _ kz G.T.g hmg
  exact top_run kz G.T.g G.T.b G.T.builtins G.T.nolimit hg hobj hi (Nat.le_trans hl hn2) hr hF hb (fun H e s' => hCX w H z e s') fun H hO hS => hsp w H a ns hl hO hS
/-! ### heaps -/
theorem sm_new {H : Hp} {p : Addr} {o : HO} (h : H p = none) : Sm H (upd H p o) := fun b x e => by
  rw [upd_ne (ne_of_none e h)]
  exact e
/-- all but b as it was -/
def Kp (b : Addr) (H H' : Hp) : Prop := ∀ a o, a ≠ b → H a = some o → H' a = some o
theorem Kp.refl {b : Addr} (H : Hp) : Kp b H H := fun _ _ _ h => h
theorem Kp.trans {b : Addr} {H H1 H2 : Hp} (x : Kp b H H1) (y : Kp b H1 H2) : Kp b H H2 := fun a o n h => y a o n (x a o n h)
theorem Kp.of {b : Addr} {H H1 : Hp} (x : Sm H H1) : Kp b H H1 := fun a o _ h => x a o h
theorem kp_upd {b : Addr} {H : Hp} {o : HO} : Kp b H (upd H b o) := fun a x n h => by rw [upd_ne n]; exact h
theorem ne_new {H : Hp} {p b : Addr} {o : HO} (hp : H p = none) (hb : H b = some o) : p ≠ b := fun e => by rw [e, hb] at hp; cases hp
theorem Same.get {H H' : Hp} {a : Addr} {o : HO} (h : Sm H H') (k : H a = some o) : H' a = some o := h a o k
theorem Kp.get {b : Addr} {H H' : Hp} {a : Addr} {o : HO} (h : Kp b H H') (n : a ≠ b) (k : H a = some o) : H' a = some o := h a o n k
theorem ne_new2 {H : Hp} {p b : Addr} {o : HO} (hp : H p = none) (hb : H b = some o) : b ≠ p := fun e => by rw [← e, hb] at hp; cases hp
theorem sm_mut {H H1 H2 : Hp} {p : Addr} (s : Sm H H1) (n : H p = none) (k : Kp p H1 H2) : Sm H H2 := fun a o h => k a o (ne_of_none h n) (s a o h)
theorem kp_mut {b : Addr} {H H1 H2 : Hp} {p : Addr} (s : Kp b H H1) (n : H p = none) (k : Kp p H1 H2) : Kp b H H2 := fun a o m h => k a o (ne_of_none h n) (s a o m h)
theorem kp_free {b : Addr} {H H1 : Hp} {p : Addr} (s : Kp b H H1) (m : p ≠ b) (n : H1 p = none) : H p = none := by
  cases e : H p with
  | none => rfl
  | some o => rw [s p o m e] at n; cases n
theorem at_ints {ns : List Int} {i : Int} (h0 : 0 ≤ i) (h1 : i < ((ns.map V.int).length : Int)) : ∃ n, atI (ns.map V.int) i = some (.int n) := by
  obtain ⟨j, rfl⟩ := Int.eq_ofNat_of_zero_le h0
  have h2 : j < ns.length := by rw [List.length_map] at h1; omega
  exact ⟨ns[j], atI_nat (by rw [List.getElem?_map, List.getElem?_eq_getElem h2]; rfl)⟩
/-- a list that no one stores into: the script's -/
def SqF (K : PySem.W.Frag) (H : Hp) (a : Addr) (xs : List V) : Prop := (∃ o, H a = some (.frz o (.lst xs))) ∨
  ∃ (o : Obj) (its : Array Value) (n : Nat), K.lookup a = some o ∧ o.cls = .type "list" ∧ o.dict = none ∧ o.data = .seq its n ∧ its.size ≤ sizeLine ∧ Vals xs its.toList
theorem SqF.sq {K : PySem.W.Frag} {H : Hp} {a : Addr} {xs : List V} (h : SqF K H a xs) : SqL K H a xs := by
  rcases h with h | h
  · exact .inl (.inr h)
  · exact .inr h
theorem SqF.sm {K : PySem.W.Frag} {H H' : Hp} {a : Addr} {xs : List V} (h : SqF K H a xs) (e : Sm H H') : SqF K H' a xs := by
  rcases h with ⟨o, h⟩ | h
  · exact .inl ⟨o, e _ _ h⟩
  · exact .inr h
theorem SqF.kp {K : PySem.W.Frag} {H H' : Hp} {a b : Addr} {xs ys : List V} (h : SqF K H a xs) (hb : H b = some (.lst ys)) (e : Kp b H H') : SqF K H' a xs := by
  rcases h with ⟨o, h⟩ | h
  · exact .inl ⟨o, e _ _ (ne_of h hb (by intro z; cases z)) h⟩
  · exact .inr h
theorem SqF.of {K : PySem.W.Frag} {H : Hp} {a : Addr} {xs : List V} (hO : Only H) (h : SqL K H a xs) : SqF K H a xs := by
  rcases h with (h | h) | h
  · rcases hO a with e | ⟨o, ys, e⟩
    · rw [e] at h; cases h
    · rw [e] at h; cases h
  · exact .inl h
  · exact .inr h
theorem g_sqf {K : PySem.W.Frag} {H H0 : Hp} {a : Addr} {xs ys : List V} (_ : SqF K H0 a ys) (h : SqF K H a xs) : SqF K H a xs := h
theorem g_lk {H H0 : Hp} {a : Addr} {o o' : HO} (_ : H0 a = some o') (h : H a = some o) : H a = some o := h
theorem g_fr {H H0 : Hp} {a : Addr} (_ : H0 a = none) (h : H a = none) : H a = none := h
/-- a list of tuples of values as told -/
def AllT (P : List V → Prop) (xs : List V) (H : Hp) : Prop := ∀ x ∈ xs, ∃ t vs, x = .ref t ∧ H t = some (.tup vs) ∧ P vs
theorem AllT.nil {P : List V → Prop} {H : Hp} : AllT P [] H := fun _ h => by cases h
theorem AllT.sm {P : List V → Prop} {xs : List V} {H H' : Hp} (h : AllT P xs H) (e : Sm H H') : AllT P xs H' := fun x hx => by
  obtain ⟨t, vs, a, b, c⟩ := h x hx
  exact ⟨t, vs, a, e _ _ b, c⟩
theorem AllT.kp {P : List V → Prop} {xs ys : List V} {H H' : Hp} {b : Addr} (h : AllT P xs H) (hb : H b = some (.lst ys)) (e : Kp b H H') : AllT P xs H' := fun x hx => by
  obtain ⟨t, vs, a, k, c⟩ := h x hx
  exact ⟨t, vs, a, e _ _ (ne_of k hb (by intro z; cases z)) k, c⟩
theorem AllT.add {P : List V → Prop} {xs vs : List V} {H : Hp} {t : Addr} (h : AllT P xs H) (k : H t = some (.tup vs)) (p : P vs) : AllT P (xs ++ [.ref t]) H := fun x hx => by
  rcases List.mem_append.mp hx with hx | hx
  · exact h x hx
  · cases hx with
    | head => exact ⟨t, vs, rfl, k, p⟩
    | tail _ z => cases z
theorem AllT.app {P : List V → Prop} {xs ys : List V} {H : Hp} (h : AllT P xs H) (k : AllT P ys H) : AllT P (xs ++ ys) H := fun x hx => (List.mem_append.mp hx).elim (h x) (k x)
theorem AllT.cut {P : List V → Prop} {xs : List V} {lo hi : Option Int} {H : Hp} (h : AllT P xs H) : AllT P (cutV xs lo hi) H := fun x hx => h x (List.mem_of_mem_drop (List.mem_of_mem_take hx))
theorem AllT.at {P : List V → Prop} {xs : List V} {H : Hp} {n : Nat} {x : V} (h : AllT P xs H) (e : xs[n]? = some x) : ∃ t vs, x = .ref t ∧ H t = some (.tup vs) ∧ P vs := h x (List.mem_of_getElem? e)
theorem at_intE {ns : List Int} {i : Int} {j : Nat} {z : Int} (e : i = (j : Int)) (h : ns[j]? = some z) : atI (ns.map V.int) i = some (.int z) := by
  subst e
  exact atI_nat (by rw [List.getElem?_map, h]; rfl)
theorem d_of {p q : Prop} [Decidable p] [Decidable q] (h : p ↔ q) : decide p = decide q := decide_eq_decide.mpr h
theorem sq_of {K : PySem.W.Frag} {H : Hp} {a : Addr} {xs : List V} (h : H a = some (.lst xs)) : SqL K H a xs := Or.inl (Or.inl h)
theorem st_of {K : PySem.W.Frag} {H : Hp} {a : Addr} {xs : List V} (h : H a = some (.tup xs)) : SqT K H a xs := Or.inl (Or.inl h)
theorem kp_sq {K : PySem.W.Frag} {b : Addr} {H H' : Hp} {a : Addr} {xs : List V} (e : Kp b H H') (n : a ≠ b) (h : SqL K H a xs) : SqL K H' a xs := by
  rcases h with (h | ⟨o, h⟩) | h
  · exact .inl (.inl (e _ _ n h))
  · exact .inl (.inr ⟨o, e _ _ n h⟩)
  · exact .inr h
theorem sm_sq {K : PySem.W.Frag} {H H' : Hp} {a : Addr} {xs : List V} (e : Sm H H') (h : SqL K H a xs) : SqL K H' a xs := e.seq h
theorem sz_of {n : Nat} (h : n ≤ 100000) : n ≤ sizeLine := Nat.le_trans h (by decide)
theorem sz_lt {n : Nat} (h : n < 100000) : n < sizeLine := Nat.lt_of_lt_of_le h (by decide)
/-! ### what follows, by names of our own -/
def NX (D : Ends) : L2.St → Hp → Prop := D.nx
def BK (D : Ends) : L2.St → Hp → Prop := D.bk
def CT (D : Ends) : L2.St → Hp → Prop := D.ct
def RT (D : Ends) : VK := D.rt
def IsBl (x : V) (R : Bool → Prop) : Prop := ∃ k, x = .bl k ∧ R k
def SpC (sp : Sp) (vs : List V) (H : Hp) (Q : VK) (E : XK) : Prop := sp (vs ++ []) H Q E
def PartE (R : Option Int → Hp → Prop) (x : V) (H : Hp) : Prop := ∃ i, x = .int i ∧ R (some i) H
def BmE (K : PySem.W.Frag) (T : String) (x : V) (H : Hp) (R : Prop) : Prop := tyV K T x H ∧ R
def En (n : L2.St → Hp → Prop) (r : VK) (b c : L2.St → Hp → Prop) : Ends := { nx := n, rt := r, bk := b, ct := c }
/-! ### loops -/
def Rg1 (R : It → Hp → Prop) (vs : List V) (H : Hp) : Prop := ∃ j : Int, vs = [.int j] ∧ -(2 ^ 62) ≤ j ∧ j < 2 ^ 62 ∧ R (Itr 0 j.toNat) H
def Rg2 (R : It → Hp → Prop) (vs : List V) (H : Hp) : Prop := ∃ i j : Int, vs = [.int i, .int j] ∧ (-(2 ^ 62) ≤ i ∧ i < 2 ^ 62 ∧ -(2 ^ 62) ≤ j ∧ j < 2 ^ 62) ∧ R (Itr i (j - i).toNat) H
def LsE (K : PySem.W.Frag) (R : It → Hp → Prop) (x : V) (H : Hp) : Prop := ∃ a, x = .ref a ∧ (∃ xs, SqL K H a xs) ∧ R (Itl K a) H
def TpE (K : PySem.W.Frag) (R : It → Hp → Prop) (x : V) (H : Hp) : Prop := ∃ a, x = .ref a ∧ (∃ xs, SqT K H a xs) ∧ R (Itt K a) H
def Loop (J : It) (g : TG) (tb : TS) : TS := fun D σ H => ∃ W : Nat → Nat → L2.St → Hp → Prop, (∃ m, W 0 m σ H) ∧ ∀ i m σ H, W i m σ H →
  (J.stop i H ∧ D.nx σ H) ∨ (J.go i H ∧ ∃ N : L2.St → Hp → Prop, (∀ σ' H', N σ' H' → ∃ m', m' < m ∧ W (i + 1) m' σ' H') ∧ ∀ x H', J.yld i H x H' → g x σ H' fun σ2 H2 => tb { D with nx := N, ct := N, bk := D.nx } σ2 H2)
section
variable {σ : L2.St} {H : Hp} {D : Ends} {K : PySem.W.Frag} {g : TG} {tb : TS} {ta : TA} {te : TE} {c : TT}
theorem w_for {wi : TI} (k : wi σ H fun J H1 => Loop J g tb D σ H1) : tFor wi g tb D σ H := k
theorem w_iR1 {R : It → Hp → Prop} (k : ta σ H fun vs H1 => Rg1 R vs H1) : iRng1 ta σ H R := k
theorem w_iR1e {n : Int} {R : It → Hp → Prop} (h1 : -(2 ^ 62) ≤ n) (h2 : n < 2 ^ 62) (k : R (Itr 0 n.toNat) H) : Rg1 R [V.int n] H := ⟨n, rfl, h1, h2, k⟩
theorem w_iR2 {R : It → Hp → Prop} (k : ta σ H fun vs H1 => Rg2 R vs H1) : iRng2 ta σ H R := k
theorem w_iR2e {m n : Int} {R : It → Hp → Prop} (h : -(2 ^ 62) ≤ m ∧ m < 2 ^ 62 ∧ -(2 ^ 62) ≤ n ∧ n < 2 ^ 62) (k : R (Itr m (n - m).toNat) H) : Rg2 R [V.int m, V.int n] H := ⟨m, n, rfl, h, k⟩
theorem w_iL {R : It → Hp → Prop} (k : te σ H fun x H1 => LsE K R x H1) : iList K te σ H R := k
theorem w_iLe {a : Addr} {xs : List V} {R : It → Hp → Prop} (h : SqL K H a xs) (k : R (Itl K a) H) : LsE K R (.ref a) H := ⟨a, rfl, ⟨xs, h⟩, k⟩
theorem w_iT {R : It → Hp → Prop} (k : te σ H fun x H1 => TpE K R x H1) : iTup K te σ H R := k
theorem w_iTe {a : Addr} {xs : List V} {R : It → Hp → Prop} (h : SqT K H a xs) (k : R (Itt K a) H) : TpE K R (.ref a) H := ⟨a, rfl, ⟨xs, h⟩, k⟩
theorem loopR {lo : Int} {n : Nat} (Pv : Nat → L2.St → Hp → Prop) (h0 : Pv 0 σ H) (hs : ∀ i σ H, i < n → Pv i σ H → g (.int (lo + i)) σ H fun σ2 H2 => tb (En (Pv (i + 1)) (RT D) (NX D) (Pv (i + 1))) σ2 H2)
    (hd : ∀ σ H, Pv n σ H → NX D σ H) : Loop (Itr lo n) g tb D σ H := for_range Pv h0 hs hd
theorem loopL {a : Addr} {xs : List V} (Pv : Nat → L2.St → Hp → Prop) (h0 : Pv 0 σ H) (hl : ∀ i σ H, i ≤ xs.length → Pv i σ H → SqL K H a xs)
    (hs : ∀ i x σ H, xs[i]? = some x → Pv i σ H → g x σ H fun σ2 H2 => tb (En (Pv (i + 1)) (RT D) (NX D) (Pv (i + 1))) σ2 H2) (hd : ∀ σ H, Pv xs.length σ H → NX D σ H) : Loop (Itl K a) g tb D σ H := for_list Pv h0 hl hs hd
theorem loopT {a : Addr} {xs : List V} (Pv : Nat → L2.St → Hp → Prop) (h0 : Pv 0 σ H) (hl : ∀ i σ H, i ≤ xs.length → Pv i σ H → SqT K H a xs)
    (hs : ∀ i x σ H, xs[i]? = some x → Pv i σ H → g x σ H fun σ2 H2 => tb (En (Pv (i + 1)) (RT D) (NX D) (Pv (i + 1))) σ2 H2) (hd : ∀ σ H, Pv xs.length σ H → NX D σ H) : Loop (Itt K a) g tb D σ H := for_tup Pv h0 hl hs hd
def WT (Pv : Nat → L2.St → Hp → Prop) (m : Nat) (tb : TS) (D : Ends) (σ : L2.St) (H : Hp) : Prop := ∃ N : L2.St → Hp → Prop, (∀ σ' H', N σ' H' → ∃ m', m' < m ∧ Pv m' σ' H') ∧ tb { D with nx := N, ct := N, bk := D.nx } σ H
def WN (Pv : Nat → L2.St → Hp → Prop) (m : Nat) : L2.St → Hp → Prop := fun σ2 H2 => ∃ m', m' < m ∧ Pv m' σ2 H2
theorem w_wt {Pv : Nat → L2.St → Hp → Prop} {m : Nat} (k : tb (En (WN Pv m) (RT D) (NX D) (WN Pv m)) σ H) : WT Pv m tb D σ H := ⟨_, fun _ _ z => z, k⟩
theorem w_while (Pv : Nat → L2.St → Hp → Prop) (m0 : Nat) (h0 : Pv m0 σ H)
    (hs : ∀ m σ' H', Pv m σ' H' → c σ' H' fun b H1 => if b = true then WT Pv m tb D σ' H1 else NX D σ' H1) : tWhile c tb D σ H := ⟨Pv, ⟨m0, h0⟩, hs⟩
end
/-! ### list comprehensions -/
def LcL (J : It) (g : TG) (tt : TT) (te : TE) (vs : List Nat) (σ : L2.St) (H1 : Hp) (Q : VK) : Prop := ∀ D, H1 D = none → ∃ W : Nat → Nat → Hp → Prop, (∃ m, W 0 m (upd H1 D (.lst []))) ∧ ∀ i m H, W i m H →
  (J.stop i H ∧ Q (.ref D) H) ∨ (J.go i H ∧ ∃ Nx : Hp → Prop, (∀ H', Nx H' → ∃ m', m' < m ∧ W (i + 1) m' H') ∧ ∀ x H', J.yld i H x H' → g x (wipe σ vs) H' fun σ2 H2 => wipe σ2 vs = wipe σ vs ∧ tt σ2 H2 fun b H3 =>
    if b = true then te σ2 H3 fun y H4 => ∃ acc, H4 D = some (.lst acc) ∧ acc.length < sizeLine ∧ Nx (upd H4 D (.lst (acc ++ [y]))) else Nx H3)
def LcEnd (D : Addr) (y : V) (R : Hp → Prop) (H : Hp) : Prop := ∃ acc, H D = some (.lst acc) ∧ acc.length < sizeLine ∧ R (upd H D (.lst (acc ++ [y])))
def LcGo (vs : List Nat) (σ σ2 : L2.St) (R : Prop) : Prop := wipe σ2 vs = wipe σ vs ∧ R
section
variable {σ : L2.St} {H : Hp} {Q : VK} {g : TG} {tt : TT} {te : TE} {vs : List Nat} {K : PySem.W.Frag}
theorem w_lc {wi : TI} (k : wi σ H fun J H1 => LcL J g tt te vs σ H1 Q) : tLc wi g tt te vs σ H Q := k
theorem w_lcEnd {D : Addr} {y : V} {acc : List V} {R : Hp → Prop} (h : H D = some (.lst acc)) (z : acc.length < sizeLine) (k : ∀ H', Kp D H H' → H' D = some (.lst (acc ++ [y])) → R H') : LcEnd D y R H := ⟨acc, h, z, k _ kp_upd upd_same⟩
theorem w_lcGo {σ2 : L2.St} {R : Prop} (e : wipe σ2 vs = wipe σ vs) (k : R) : LcGo vs σ σ2 R := ⟨e, k⟩
theorem w_yes {QT : Bool → Hp → Prop} (k : QT true H) : tYes σ H QT := k
theorem lcR {lo : Int} {n : Nat} (Pv : Addr → Nat → Hp → Prop) (h0 : ∀ D H', H D = none → Sm H H' → H' D = some (.lst []) → Pv D 0 H')
    (hs : ∀ D i H', H D = none → i < n → Pv D i H' → g (.int (lo + i)) (wipe σ vs) H' fun σ2 H2 => LcGo vs σ σ2 (tt σ2 H2 fun b H3 => if b = true then te σ2 H3 fun y H4 => LcEnd D y (Pv D (i + 1)) H4 else Pv D (i + 1) H3))
    (hd : ∀ D H', H D = none → Pv D n H' → Q (.ref D) H') : LcL (Itr lo n) g tt te vs σ H Q := fun D hD =>
  lc_range (Pv D) (h0 D _ hD (sm_new hD) upd_same) (fun i H' hi p => hs D i H' hD hi p) (fun H' p => hd D H' hD p)
theorem lcLs {a : Addr} {xs : List V} (Pv : Addr → Nat → Hp → Prop) (h0 : ∀ D H', H D = none → Sm H H' → H' D = some (.lst []) → Pv D 0 H') (hl : ∀ D i H', H D = none → i ≤ xs.length → Pv D i H' → SqL K H' a xs)
    (hs : ∀ D i x H', H D = none → xs[i]? = some x → Pv D i H' → g x (wipe σ vs) H' fun σ2 H2 => LcGo vs σ σ2 (tt σ2 H2 fun b H3 => if b = true then te σ2 H3 fun y H4 => LcEnd D y (Pv D (i + 1)) H4 else Pv D (i + 1) H3))
    (hd : ∀ D H', H D = none → Pv D xs.length H' → Q (.ref D) H') : LcL (Itl K a) g tt te vs σ H Q := fun D hD =>
  lc_list (xs := xs) (Pv D) (h0 D _ hD (sm_new hD) upd_same) (fun i H' hi p => hl D i H' hD hi p) (fun i x H' hi p => hs D i x H' hD hi p) (fun H' p => hd D H' hD p)
theorem lcTp {a : Addr} {xs : List V} (Pv : Addr → Nat → Hp → Prop) (h0 : ∀ D H', H D = none → Sm H H' → H' D = some (.lst []) → Pv D 0 H') (hl : ∀ D i H', H D = none → i ≤ xs.length → Pv D i H' → SqT K H' a xs)
    (hs : ∀ D i x H', H D = none → xs[i]? = some x → Pv D i H' → g x (wipe σ vs) H' fun σ2 H2 => LcGo vs σ σ2 (tt σ2 H2 fun b H3 => if b = true then te σ2 H3 fun y H4 => LcEnd D y (Pv D (i + 1)) H4 else Pv D (i + 1) H3))
    (hd : ∀ D H', H D = none → Pv D xs.length H' → Q (.ref D) H') : LcL (Itt K a) g tt te vs σ H Q := fun D hD =>
  lc_tup (xs := xs) (Pv D) (h0 D _ hD (sm_new hD) upd_same) (fun i H' hi p => hl D i H' hD hi p) (fun i x H' hi p => hs D i x H' hD hi p) (fun H' p => hd D H' hD p)
end
/-! ### keywords -/
theorem rel_0 {r1 : List Value} (h : Vals [] r1) : r1 = [] := by cases h; rfl
theorem rel_1 {x : V} {xs : List V} {us : List Value} (h : Vals (x :: xs) us) : ∃ u vs, us = u :: vs ∧ RelV x u ∧ Vals xs vs := by
  cases h with
  | cons a b => exact ⟨_, _, rfl, a, b⟩
/-! ### steps -/
section
variable {σ : L2.St} {H : Hp} {Q : VK} {QT : Bool → Hp → Prop} {QA : List V → Hp → Prop} {D : Ends} {K : PySem.W.Frag} {te ta tb : TE} {tt tu : TT} {t1 t2 : TS} {v x y : V} {i j : Int} {b : Bool}
theorem w_var {n : Nat} (h : σ[n]? = some (some v)) (k : Q v H) : tVar n σ H Q := ⟨v, h, k⟩
theorem w_c (k : Q v H) : tC v σ H Q := k
theorem w_op {r : R2} (k : ta σ H fun x H1 => tb σ H1 fun y H2 => r x y H2 Q) : tOp r ta tb σ H Q := k
theorem w_un {r : V → Hp → VK → Prop} (k : ta σ H fun x H1 => r x H1 Q) : tUn r ta σ H Q := k
theorem w_rU {g : Int → V} (k : Q (g i) H) : rU g (.int i) H Q := ⟨i, rfl, k⟩
theorem inV_S2 {s a c : Str} : inV (.str s) [.str a, .str c] = decide (s = a ∨ s = c) := by
  show ((a == s) || ((c == s) || false)) = _
  rw [Bool.or_false]
  by_cases h1 : s = a
  · subst h1; simp
  · by_cases h2 : s = c
    · subst h2; simp
    · have e1 : (a == s) = false := by simpa using fun e : a = s => h1 e.symm
      have e2 : (c == s) = false := by simpa using fun e : c = s => h2 e.symm
      rw [e1, e2, decide_eq_false (by rintro (h | h); exact h1 h; exact h2 h)]
      rfl
theorem w_inS2 {p : Addr} {s a c : Str} (h : SqT K H p [.str a, .str c]) (k : Q (.bl (decide (s = a ∨ s = c))) H) : rIn K false (.str s) (.ref p) H Q := ⟨p, _, rfl, .inr h, rfl, rfl, by rw [inV_S2]; exact k⟩
theorem w_niS2 {p : Addr} {s a c : Str} (h : SqT K H p [.str a, .str c]) (k : Q (.bl (!decide (s = a ∨ s = c))) H) : rIn K true (.str s) (.ref p) H Q := ⟨p, _, rfl, .inr h, rfl, rfl, by rw [inV_S2]; exact k⟩
theorem w_cb {r : List V → Hp → VK → Prop} {t : TA} (k : t σ H fun vs H1 => r vs H1 Q) : tCB r t σ H Q := k
theorem w_nil (k : QA [] H) : tNil σ H QA := k
theorem w_cons {tr : TA} (k : ta σ H fun x H1 => tr σ H1 fun xs H2 => QA (x :: xs) H2) : tCons ta tr σ H QA := k
def NewL (xs : List V) (H : Hp) (Q : VK) : Prop := xs.length ≤ sizeLine ∧ ∀ p, H p = none → Q (.ref p) (upd H p (.lst xs))
def NewT (xs : List V) (H : Hp) (Q : VK) : Prop := xs.length ≤ sizeLine ∧ ∀ p, H p = none → Q (.ref p) (upd H p (.tup xs))
theorem w_lst {t : TA} (k : t σ H fun xs H1 => NewL xs H1 Q) : tLst t σ H Q := k
theorem w_tup {t : TA} (k : t σ H fun xs H1 => NewT xs H1 Q) : tTup t σ H Q := k
theorem w_newL {xs : List V} (z : xs.length ≤ sizeLine) (k : ∀ p H', H p = none → Sm H H' → H' p = some (.lst xs) → Q (.ref p) H') : NewL xs H Q := ⟨z, fun p hp => k p _ hp (sm_new hp) upd_same⟩
theorem w_newT {xs : List V} (z : xs.length ≤ sizeLine) (k : ∀ p H', H p = none → Sm H H' → H' p = some (.tup xs) → Q (.ref p) H') : NewT xs H Q := ⟨z, fun p hp => k p _ hp (sm_new hp) upd_same⟩
theorem w_call {sp : Sp} {E : XK} {t : TA} (k : t σ H fun vs H1 => SpC sp vs H1 Q E) : tCall sp [] E t σ H Q := k
theorem w_sp {sp : Sp} {E : XK} {vs : List V} (k : sp vs H Q E) : SpC sp vs H Q E := by unfold SpC; rw [List.append_nil]; exact k
theorem w_callK {sp : Sp} {gV : List V → List V → List V} {E : XK} {t tk : TA} (k : t σ H fun vs H1 => tk σ H1 fun zs H2 => sp (gV vs zs) H2 Q E) : tCallK sp gV E t tk σ H Q := k
/-! values of operations -/
theorem w_ixL' {p : Addr} {xs : List V} (h : SqL K H p xs) (a : atI xs i = some v) (k : Q v H) : rIx K (.ref p) (.int i) H Q := .inl ⟨p, xs, i, v, rfl, rfl, h, a, k⟩
theorem w_addI (k : Q (.int (i + j)) H) : gAdd K (.int i) (.int j) H Q := .inl ⟨i, j, rfl, rfl, k⟩
theorem w_addS {a b : Str} (z : a.length + b.length ≤ sizeLine) (k : Q (.str (a ++ b)) H) : gAdd K (.str a) (.str b) H Q := .inr (.inl ⟨a, b, rfl, rfl, z, k⟩)
theorem w_addL {l m : Addr} {xs ys : List V} (h1 : H l = some (.lst xs)) (h2 : H m = some (.lst ys)) (z : xs.length + ys.length ≤ sizeLine) (k : ∀ p H', H p = none → Sm H H' → H' p = some (.lst (xs ++ ys)) → Q (.ref p) H') :
    gAdd K (.ref l) (.ref m) H Q := .inr (.inr (.inl ⟨l, m, xs, ys, rfl, rfl, h1, h2, z, fun p hp => k p _ hp (sm_new hp) upd_same⟩))
theorem w_I0 {g : Int → Int → V} (k : Q (g i j) H) : rI0 g (.int i) (.int j) H Q := ⟨i, j, rfl, rfl, k⟩
theorem w_I {C : Int → Int → Prop} {g : Int → Int → V} (c : C i j) (k : Q (g i j) H) : rI C g (.int i) (.int j) H Q := ⟨i, j, rfl, rfl, c, k⟩
theorem w_mulI (c : CM i j) (k : Q (.int (i * j)) H) : gMul (.int i) (.int j) H Q := by
  rcases c with c | c
  · exact .inl ⟨i, j, rfl, rfl, c, k⟩
  · exact .inr (.inl ⟨i, j, rfl, rfl, c, k⟩)
theorem w_divI (c : CDivW i j) (k : Q (.int (i / j)) H) : gDiv (.int i) (.int j) H Q := ⟨i, j, rfl, rfl, c, k⟩
theorem w_modI (c : 0 < j) (k : Q (.int (i % j)) H) : gMod (.int i) (.int j) H Q := ⟨i, j, rfl, rfl, c, k⟩
theorem w_modF (c : 0 < j) (k : ∀ z : Int, z = i % j → 0 ≤ z → z < j → (0 ≤ i → z ≤ i) → Q (.int z) H) : gMod (.int i) (.int j) H Q :=
  w_modI c (k _ rfl (Int.emod_nonneg _ (Int.ne_of_gt c)) (Int.emod_lt_of_pos _ c) fun h => by
    by_cases h2 : i < j
    · rw [Int.emod_eq_of_lt h h2]; exact Int.le_refl _
    · have := Int.emod_lt_of_pos i c
      omega)
theorem w_shlI (c : CShl i j) (k : Q (.int (i * 2 ^ j.toNat)) H) : gShl (.int i) (.int j) H Q := ⟨i, j, rfl, rfl, c, k⟩
theorem w_powI (c : CPow i j) (k : Q (.int (i ^ j.toNat)) H) : gPow (.int i) (.int j) H Q := ⟨i, j, rfl, rfl, c, k⟩
theorem w_shr1 (k : Q (.int (i / 2)) H) : gShr (.int i) (.int 1) H Q := ⟨i, 1, rfl, rfl, (show (0 : Int) ≤ 1 by decide), (show Q (.int (i / 2 ^ Int.toNat 1)) H from k)⟩
theorem w_iaddI (k : Q (.int (i + j)) H) : gIAdd (.int i) (.int j) H Q := .inl ⟨i, j, rfl, rfl, k⟩
theorem w_iaddS {a b : Str} (z : a.length + b.length ≤ sizeLine) (k : Q (.str (a ++ b)) H) : gIAdd (.str a) (.str b) H Q := .inr ⟨a, b, rfl, rfl, z, k⟩
theorem w_imulI (c : CM i j) (k : Q (.int (i * j)) H) : gIMul (.int i) (.int j) H Q := by
  rcases c with c | c
  · exact .inl ⟨i, j, rfl, rfl, c, k⟩
  · exact .inr ⟨i, j, rfl, rfl, c, k⟩
theorem w_xorI (k : Q (.int (Builtin.bitXor i j)) H) : gXor (.int i) (.int j) H Q := ⟨i, j, rfl, rfl, k⟩
theorem w_isiIb (k : Q (.bl false) H) : rIsi K [.int i, .ty "bool"] H Q := ⟨_, _, _, _, _, rfl, .ty _, .base (.int _), kit_ty (by decide +kernel), k⟩
theorem w_isiIi (k : Q (.bl true) H) : rIsi K [.int i, .ty "int"] H Q := ⟨_, _, _, _, _, rfl, .ty _, .base (.int _), kit_ty (by decide +kernel), k⟩
theorem w_isiBb (k : Q (.bl true) H) : rIsi K [.bl b, .ty "bool"] H Q := ⟨_, _, _, _, _, rfl, .ty _, .base (.bl _), kit_ty (by decide +kernel), k⟩
theorem w_isiSs {s : Str} (k : Q (.bl true) H) : rIsi K [.str s, .ty "str"] H Q := ⟨_, _, _, _, _, rfl, .ty _, .base (.str _), kit_ty (by decide +kernel), k⟩
theorem w_isiTup {a : Addr} {xs : List V} (h : H a = some (.tup xs)) (k : Q (.bl true) H) : rIsi K [.ref a, .ty "tuple"] H Q := ⟨_, _, _, _, _, rfl, .ty _, .base (.tup h), kit_ty (by decide +kernel), k⟩
theorem w_ixInts {p : Addr} {ns : List Int} (h : SqL K H p (ns.map V.int)) (h0 : 0 ≤ i) (h1 : i < ((ns.map V.int).length : Int)) (k : ∀ n : Int, n ∈ ns → Q (.int n) H) : rIx K (.ref p) (.int i) H Q := by
  obtain ⟨j, rfl⟩ := Int.eq_ofNat_of_zero_le h0
  have h2 : j < ns.length := by rw [List.length_map] at h1; omega
  exact w_ixL' h (atI_nat (by rw [List.getElem?_map, List.getElem?_eq_getElem h2]; rfl)) (k _ (List.getElem_mem h2))
theorem w_ix2I {p : Addr} {x y : Int} (h : SqL K H p [.int x, .int y]) (h0 : 0 ≤ i) (h1 : i < 2) (k : ∀ z : Int, i = 0 ∧ z = x ∨ i = 1 ∧ z = y → Q (.int z) H) : rIx K (.ref p) (.int i) H Q := by
  rcases (show i = 0 ∨ i = 1 by omega) with rfl | rfl
  · exact w_ixL' h (atI_nat (j := 0) rfl) (k _ (.inl ⟨rfl, rfl⟩))
  · exact w_ixL' h (atI_nat (j := 1) rfl) (k _ (.inr ⟨rfl, rfl⟩))
theorem w_ix3I {p : Addr} {x0 x1 x2 : Int} (h : SqL K H p [.int x0, .int x1, .int x2]) (h0 : 0 ≤ i) (h1 : i < 3) (k : ∀ z : Int, z = x0 ∨ z = x1 ∨ z = x2 → Q (.int z) H) : rIx K (.ref p) (.int i) H Q := by
  rcases (show i = 0 ∨ i = 1 ∨ i = 2 by omega) with rfl | rfl | rfl
  · exact w_ixL' h (atI_nat (j := 0) rfl) (k _ (by omega))
  · exact w_ixL' h (atI_nat (j := 1) rfl) (k _ (by omega))
  · exact w_ixL' h (atI_nat (j := 2) rfl) (k _ (by omega))
theorem w_ix4I {p : Addr} {x0 x1 x2 x3 : Int} (h : SqL K H p [.int x0, .int x1, .int x2, .int x3]) (h0 : 0 ≤ i) (h1 : i < 4) (k : ∀ z : Int, z = x0 ∨ z = x1 ∨ z = x2 ∨ z = x3 → Q (.int z) H) : rIx K (.ref p) (.int i) H Q := by
  rcases (show i = 0 ∨ i = 1 ∨ i = 2 ∨ i = 3 by omega) with rfl | rfl | rfl | rfl
  · exact w_ixL' h (atI_nat (j := 0) rfl) (k _ (by omega))
  · exact w_ixL' h (atI_nat (j := 1) rfl) (k _ (by omega))
  · exact w_ixL' h (atI_nat (j := 2) rfl) (k _ (by omega))
  · exact w_ixL' h (atI_nat (j := 3) rfl) (k _ (by omega))
theorem w_ix5I {p : Addr} {x0 x1 x2 x3 x4 : Int} (h : SqL K H p [.int x0, .int x1, .int x2, .int x3, .int x4]) (h0 : 0 ≤ i) (h1 : i < 5) (k : ∀ z : Int, z = x0 ∨ z = x1 ∨ z = x2 ∨ z = x3 ∨ z = x4 → Q (.int z) H) : rIx K (.ref p) (.int i) H Q := by
  rcases (show i = 0 ∨ i = 1 ∨ i = 2 ∨ i = 3 ∨ i = 4 by omega) with rfl | rfl | rfl | rfl | rfl
  · exact w_ixL' h (atI_nat (j := 0) rfl) (k _ (by omega))
  · exact w_ixL' h (atI_nat (j := 1) rfl) (k _ (by omega))
  · exact w_ixL' h (atI_nat (j := 2) rfl) (k _ (by omega))
  · exact w_ixL' h (atI_nat (j := 3) rfl) (k _ (by omega))
  · exact w_ixL' h (atI_nat (j := 4) rfl) (k _ (by omega))
theorem w_ix6I {p : Addr} {x0 x1 x2 x3 x4 x5 : Int} (h : SqL K H p [.int x0, .int x1, .int x2, .int x3, .int x4, .int x5]) (h0 : 0 ≤ i) (h1 : i < 6) (k : ∀ z : Int, z = x0 ∨ z = x1 ∨ z = x2 ∨ z = x3 ∨ z = x4 ∨ z = x5 → Q (.int z) H) : rIx K (.ref p) (.int i) H Q := by
  rcases (show i = 0 ∨ i = 1 ∨ i = 2 ∨ i = 3 ∨ i = 4 ∨ i = 5 by omega) with rfl | rfl | rfl | rfl | rfl | rfl
  · exact w_ixL' h (atI_nat (j := 0) rfl) (k _ (by omega))
  · exact w_ixL' h (atI_nat (j := 1) rfl) (k _ (by omega))
  · exact w_ixL' h (atI_nat (j := 2) rfl) (k _ (by omega))
  · exact w_ixL' h (atI_nat (j := 3) rfl) (k _ (by omega))
  · exact w_ixL' h (atI_nat (j := 4) rfl) (k _ (by omega))
  · exact w_ixL' h (atI_nat (j := 5) rfl) (k _ (by omega))
theorem w_ix7I {p : Addr} {x0 x1 x2 x3 x4 x5 x6 : Int} (h : SqL K H p [.int x0, .int x1, .int x2, .int x3, .int x4, .int x5, .int x6]) (h0 : 0 ≤ i) (h1 : i < 7) (k : ∀ z : Int, z = x0 ∨ z = x1 ∨ z = x2 ∨ z = x3 ∨ z = x4 ∨ z = x5 ∨ z = x6 → Q (.int z) H) : rIx K (.ref p) (.int i) H Q := by
  rcases (show i = 0 ∨ i = 1 ∨ i = 2 ∨ i = 3 ∨ i = 4 ∨ i = 5 ∨ i = 6 by omega) with rfl | rfl | rfl | rfl | rfl | rfl | rfl
  · exact w_ixL' h (atI_nat (j := 0) rfl) (k _ (by omega))
  · exact w_ixL' h (atI_nat (j := 1) rfl) (k _ (by omega))
  · exact w_ixL' h (atI_nat (j := 2) rfl) (k _ (by omega))
  · exact w_ixL' h (atI_nat (j := 3) rfl) (k _ (by omega))
  · exact w_ixL' h (atI_nat (j := 4) rfl) (k _ (by omega))
  · exact w_ixL' h (atI_nat (j := 5) rfl) (k _ (by omega))
  · exact w_ixL' h (atI_nat (j := 6) rfl) (k _ (by omega))
theorem w_ix8I {p : Addr} {x0 x1 x2 x3 x4 x5 x6 x7 : Int} (h : SqL K H p [.int x0, .int x1, .int x2, .int x3, .int x4, .int x5, .int x6, .int x7]) (h0 : 0 ≤ i) (h1 : i < 8) (k : ∀ z : Int, z = x0 ∨ z = x1 ∨ z = x2 ∨ z = x3 ∨ z = x4 ∨ z = x5 ∨ z = x6 ∨ z = x7 → Q (.int z) H) : rIx K (.ref p) (.int i) H Q := by
  rcases (show i = 0 ∨ i = 1 ∨ i = 2 ∨ i = 3 ∨ i = 4 ∨ i = 5 ∨ i = 6 ∨ i = 7 by omega) with rfl | rfl | rfl | rfl | rfl | rfl | rfl | rfl
  · exact w_ixL' h (atI_nat (j := 0) rfl) (k _ (by omega))
  · exact w_ixL' h (atI_nat (j := 1) rfl) (k _ (by omega))
  · exact w_ixL' h (atI_nat (j := 2) rfl) (k _ (by omega))
  · exact w_ixL' h (atI_nat (j := 3) rfl) (k _ (by omega))
  · exact w_ixL' h (atI_nat (j := 4) rfl) (k _ (by omega))
  · exact w_ixL' h (atI_nat (j := 5) rfl) (k _ (by omega))
  · exact w_ixL' h (atI_nat (j := 6) rfl) (k _ (by omega))
  · exact w_ixL' h (atI_nat (j := 7) rfl) (k _ (by omega))
theorem w_mulS {a : Str} (c : MulOk a i) (k : Q (.str (Txt.mul a i)) H) : gMulS (.str a) (.int i) H Q := ⟨a, i, rfl, rfl, c, k⟩
theorem shl1_ok (h0 : 0 ≤ j) (h : j ≤ 1000000) : CShl 1 j := by
  refine ⟨h0, ?_⟩
  have : Builtin.Int.intBits 1 ≤ 1 := intBits_le (by decide)
  omega
theorem pow_bd {m : Nat} (h : j ≤ (m : Int)) : 1 ≤ 1 * (2 : Int) ^ j.toNat ∧ 1 * (2 : Int) ^ j.toNat ≤ 2 ^ m ∧ (1 ≤ j → 2 ≤ 1 * (2 : Int) ^ j.toNat) := by
  have e : ∀ n : Nat, (2 : Int) ^ n = ((2 ^ n : Nat) : Int) := fun n => by rw [Int.natCast_pow]; rfl
  have h1 : 2 ^ j.toNat ≤ 2 ^ m := Nat.pow_le_pow_right (by decide) (by omega)
  have h2 : 0 < 2 ^ j.toNat := Nat.two_pow_pos _
  rw [Int.one_mul, e, e]
  refine ⟨by omega, by omega, fun hj => ?_⟩
  have h3 : 2 ^ 1 ≤ 2 ^ j.toNat := Nat.pow_le_pow_right (by decide) (by omega)
  omega
theorem and_nat {a b : Nat} : Builtin.bitAnd (a : Int) (b : Int) = ((a &&& b : Nat) : Int) := by
  have h := bitAnd_pp (Int.natCast_nonneg a) (Int.natCast_nonneg b)
  rw [Int.toNat_natCast, Int.toNat_natCast] at h
  exact h
theorem and_bd (h0 : 0 ≤ i) (h1 : 0 ≤ j) : 0 ≤ Builtin.bitAnd i j ∧ Builtin.bitAnd i j ≤ i ∧ Builtin.bitAnd i j ≤ j := by
  obtain ⟨a, rfl⟩ := Int.eq_ofNat_of_zero_le h0
  obtain ⟨b, rfl⟩ := Int.eq_ofNat_of_zero_le h1
  rw [and_nat]
  have e1 := @Nat.and_le_left a b
  have e2 := @Nat.and_le_right a b
  omega
def gOr : R2 := rI0 fun i j => .int (Builtin.bitOr i j)
theorem op_gOr {X : Cx} : OpR X (binaryOp .BitOr) gOr := L2.op_or
theorem w_orF (h0 : 0 ≤ i) (h1 : 0 ≤ j) (k : ∀ z : Int, z = Builtin.bitOr i j → 0 ≤ z → z ≤ i + j → Q (.int z) H) : gOr (.int i) (.int j) H Q := ⟨i, j, rfl, rfl, k _ rfl (by rw [L2.bitOr_nn h0 h1]; exact Int.natCast_nonneg _) (by rw [bitOr_and]; have := (and_bd h0 h1).1; omega)⟩
theorem dV_bl {s t : Bool} : decide (V.bl s = V.bl t) = decide (s = t) := by cases s <;> cases t <;> rfl
theorem w_eqB {s t : Bool} (k : Q (.bl (decide (s = t))) H) : gEq K (.bl s) (.bl t) H Q := .inl ⟨rfl, by rw [dV_bl]; exact k⟩
theorem w_neB {s t : Bool} (k : Q (.bl (!decide (s = t))) H) : gNe K (.bl s) (.bl t) H Q := .inl ⟨rfl, by rw [dV_bl]; exact k⟩
def gIs : R2 := fun x y H Q => y = .non ∧ Q (.bl (decide (x = .non))) H
def gNot : R2 := fun x y H Q => y = .non ∧ Q (.bl (!decide (x = .non))) H
theorem op_gIs {X : Cx} : OpR X (compareOp .Is) gIs := op_isN
theorem op_gNot {X : Cx} : OpR X (compareOp .IsNot) gNot := op_notN
theorem op_gIsB {X : Cx} : OpR X (compareOp .Is) rIsB := op_isBl
theorem op_gNotB {X : Cx} : OpR X (compareOp .IsNot) rNotB := op_notBl
theorem w_isN0 (k : Q (.bl true) H) : gIs .non .non H Q := ⟨rfl, by simpa using k⟩
theorem w_notN0 (k : Q (.bl false) H) : gNot .non .non H Q := ⟨rfl, by simpa using k⟩
theorem w_isNx (h : x ≠ .non) (k : Q (.bl false) H) : gIs x .non H Q := ⟨rfl, by rw [decide_eq_false h]; exact k⟩
theorem w_notNx (h : x ≠ .non) (k : Q (.bl true) H) : gNot x .non H Q := ⟨rfl, by rw [decide_eq_false h]; exact k⟩
theorem w_isBT (k : Q (.bl b) H) : rIsB (.bl b) (.bl true) H Q := ⟨b, true, rfl, rfl, by cases b <;> exact k⟩
theorem w_notBT (k : Q (.bl (!b)) H) : rNotB (.bl b) (.bl true) H Q := ⟨b, true, rfl, rfl, by cases b <;> exact k⟩
theorem w_sum {p : Addr} {ns : List Int} (h : SqL K H p (ns.map V.int)) (k : Q (.int ns.sum) H) : rSum K [.ref p] H Q := ⟨p, ns, rfl, h, k⟩
theorem w_all {p : Addr} {bs : List Bool} (h : SqL K H p (bs.map V.bl)) (k : Q (.bl (bs.all id)) H) : rAll K [.ref p] H Q := ⟨p, bs, rfl, h, k⟩
theorem w_shl1F (h0 : 0 ≤ j) (h : j ≤ 1000000) (k : ∀ z : Int, z = 2 ^ j.toNat → 1 ≤ z → (1 ≤ j → 2 ≤ z) → (j ≤ 9 → z ≤ 512) → (j ≤ 40 → z ≤ 1099511627776) → Q (.int z) H) : gShl (.int 1) (.int j) H Q := by
  obtain ⟨q1, q2, q3⟩ := pow_bd (j := j) (m := 1000000) (by omega)
  rw [Int.one_mul] at q1 q3
  refine w_shlI (shl1_ok h0 h) ?_
  rw [Int.one_mul]
  exact k _ rfl q1 q3 (fun h => by have := (pow_bd (j := j) (m := 9) (by omega)).2.1; rw [Int.one_mul] at this; omega) (fun h => by have := (pow_bd (j := j) (m := 40) (by omega)).2.1; rw [Int.one_mul] at this; omega)
theorem w_andF (h0 : 0 ≤ i) (h1 : 0 ≤ j) (k : ∀ z : Int, z = Builtin.bitAnd i j → 0 ≤ z → z ≤ i → z ≤ j → Q (.int z) H) : gAnd (.int i) (.int j) H Q := by
  obtain ⟨q1, q2, q3⟩ := and_bd h0 h1
  exact ⟨i, j, rfl, rfl, k _ rfl q1 q2 q3⟩
def BitsE (Q : VK) (x : V) (H : Hp) : Prop := ∃ i, x = .int i ∧ Q (.int (Builtin.Int.intBits i : Nat)) H
theorem w_bits {to : TE} (k : to σ H fun x H1 => BitsE Q x H1) : tBits to σ H Q := k
theorem bits_lt (i : Int) : i.natAbs < 2 ^ Builtin.Int.intBits i := by
  unfold Builtin.Int.intBits
  split
  · rename_i h
    have : i = 0 := by simpa using h
    subst this; decide
  · exact Nat.lt_log2_self
theorem w_bitsE (k : ∀ m : Nat, m = Builtin.Int.intBits i → i.natAbs < 2 ^ m → Q (.int m) H) : BitsE Q (.int i) H := ⟨i, rfl, k _ rfl (bits_lt i)⟩
theorem w_shrI (c : 0 ≤ j) (k : Q (.int (i / 2 ^ j.toNat)) H) : gShr (.int i) (.int j) H Q := ⟨i, j, rfl, rfl, c, k⟩
theorem w_andI (k : Q (.int (Builtin.bitAnd i j)) H) : gAnd (.int i) (.int j) H Q := ⟨i, j, rfl, rfl, k⟩
theorem w_ltI (k : Q (.bl (decide (i < j))) H) : gLt (.int i) (.int j) H Q := ⟨i, j, rfl, rfl, k⟩
theorem w_leI (k : Q (.bl (decide (i ≤ j))) H) : gLe (.int i) (.int j) H Q := ⟨i, j, rfl, rfl, k⟩
theorem w_gtI (k : Q (.bl (decide (j < i))) H) : gGt (.int i) (.int j) H Q := ⟨i, j, rfl, rfl, k⟩
theorem w_geI (k : Q (.bl (decide (j ≤ i))) H) : gGe (.int i) (.int j) H Q := ⟨i, j, rfl, rfl, k⟩
theorem dV_int : decide (V.int i = V.int j) = decide (i = j) := by
  by_cases h : i = j
  · subst h; simp
  · rw [decide_eq_false h, decide_eq_false (fun e => h (V.int.inj e))]
theorem dV_str {s t : Str} : decide (V.str s = V.str t) = decide (s = t) := by
  by_cases h : s = t
  · subst h; simp
  · rw [decide_eq_false h, decide_eq_false (fun e => h (V.str.inj e))]
theorem w_eqI (k : Q (.bl (decide (i = j))) H) : gEq K (.int i) (.int j) H Q := .inl ⟨rfl, by rw [dV_int]; exact k⟩
theorem w_neI (k : Q (.bl (!decide (i = j))) H) : gNe K (.int i) (.int j) H Q := .inl ⟨rfl, by rw [dV_int]; exact k⟩
theorem w_eqS {s t : Str} (k : Q (.bl (decide (s = t))) H) : gEq K (.str s) (.str t) H Q := .inl ⟨rfl, by rw [dV_str]; exact k⟩
theorem w_neS {s t : Str} (k : Q (.bl (!decide (s = t))) H) : gNe K (.str s) (.str t) H Q := .inl ⟨rfl, by rw [dV_str]; exact k⟩
theorem w_lenL {p : Addr} {xs : List V} (h : SqL K H p xs) (k : Q (.int (xs.length : Int)) H) : gLen K [.ref p] H Q := .inl ⟨p, xs, rfl, .inl h, k⟩
theorem w_lenT {p : Addr} {xs : List V} (h : SqT K H p xs) (k : Q (.int (xs.length : Int)) H) : gLen K [.ref p] H Q := .inl ⟨p, xs, rfl, .inr h, k⟩
theorem w_lenS {s : Str} (z : s.length ≤ sizeLine) (k : Q (.int (s.length : Int)) H) : gLen K [.str s] H Q := .inr ⟨s, rfl, z, k⟩
theorem w_intB (k1 : b = true → Q (.int 1) H) (k0 : b = false → Q (.int 0) H) : gIntC [.bl b] H Q := .inr ⟨b, rfl, by cases b; exact k0 rfl; exact k1 rfl⟩
theorem w_intD {c : Prop} [Decidable c] (k1 : c → Q (.int 1) H) (k0 : ¬ c → Q (.int 0) H) : gIntC [.bl (decide c)] H Q := w_intB (fun e => k1 (of_decide_eq_true e)) (fun e => k0 (of_decide_eq_false e))
theorem w_intDn {c : Prop} [Decidable c] (k1 : ¬ c → Q (.int 1) H) (k0 : c → Q (.int 0) H) : gIntC [.bl (!decide c)] H Q := w_intB (fun e => k1 (fun z => by rw [decide_eq_true z] at e; cases e)) (fun e => k0 (Decidable.byContradiction fun z => by rw [decide_eq_false z] at e; cases e))
theorem w_intI (k : Q (.int i) H) : gIntC [.int i] H Q := .inl ⟨i, rfl, k⟩
theorem w_max (k : Q (.int (max i j)) H) : gMax [.int i, .int j] H Q := ⟨i, j, rfl, by
  have e : (if j > i then j else i) = max i j := by split <;> omega
  rw [e]; exact k⟩
theorem w_min (k : Q (.int (min i j)) H) : gMin [.int i, .int j] H Q := ⟨i, j, rfl, by
  have e : (if j < i then j else i) = min i j := by split <;> omega
  rw [e]; exact k⟩
theorem w_ixL {p : Addr} {xs : List V} (h : SqL K H p xs) (a : atI xs i = some v) (k : Q v H) : rIx K (.ref p) (.int i) H Q := .inl ⟨p, xs, i, v, rfl, rfl, h, a, k⟩
theorem w_ixT {p : Addr} {xs : List V} (h : SqT K H p xs) (a : atI xs i = some v) (k : Q v H) : rIx K (.ref p) (.int i) H Q := .inr (.inl ⟨p, xs, i, v, rfl, rfl, h, a, k⟩)
theorem w_ixS {z : Str} {c : Nat} (h : z.length ≤ sizeLine) (a : atI z.cps.toList i = some c) (k : Q (.str ⟨#[c]⟩) H) : rIx K (.str z) (.int i) H Q := .inr (.inr ⟨z, i, c, rfl, rfl, h, a, k⟩)
/-! tests -/
theorem w_test (k : te σ H fun x H' => IsBl x fun k => QT k H') : tTest te σ H QT := k
theorem w_isbl {R : Bool → Prop} (k : R b) : IsBl (.bl b) R := ⟨b, rfl, k⟩
theorem w_B (k : te σ H fun x H' => IsBl x fun k => QT k H') : tB te σ H QT := k
theorem w_and (k : tt σ H fun c H1 => if c = true then tu σ H1 QT else QT false H1) : tAnd tt tu σ H QT := k
theorem w_or (k : tt σ H fun c H1 => if c = true then QT true H1 else tu σ H1 QT) : tOr tt tu σ H QT := k
theorem w_not (k : tt σ H fun c H1 => QT (!c) H1) : tNot tt σ H QT := k
theorem w_ife (k : tt σ H fun c H1 => if c = true then ta σ H1 Q else tb σ H1 Q) : tIf tt ta tb σ H Q := k
theorem w_andV (k : ta σ H fun x H1 => IsBl x fun c => if c = true then tb σ H1 Q else Q (.bl false) H1) : tAndV ta tb σ H Q := k
theorem w_orV (k : ta σ H fun x H1 => IsBl x fun c => if c = true then Q (.bl true) H1 else tb σ H1 Q) : tOrV ta tb σ H Q := k
theorem w_notV (k : ta σ H fun x H1 => IsBl x fun c => Q (.bl (!c)) H1) : tNotV ta σ H Q := k
theorem w_if {c A B : Prop} [Decidable c] (h1 : c → A) (h2 : ¬ c → B) : if decide c = true then A else B := by
  by_cases h : c
  · rw [decide_eq_true h]; exact h1 h
  · rw [decide_eq_false h]; exact h2 h
theorem w_ifn {c A B : Prop} [Decidable c] (h1 : ¬ c → A) (h2 : c → B) : if (!decide c) = true then A else B := by
  by_cases h : c
  · rw [decide_eq_true h]; exact h2 h
  · rw [decide_eq_false h]; exact h1 h
theorem w_ifnn {c A B : Prop} [Decidable c] (h1 : c → A) (h2 : ¬ c → B) : if (!!decide c) = true then A else B := by
  by_cases h : c
  · rw [decide_eq_true h]; exact h1 h
  · rw [decide_eq_false h]; exact h2 h
theorem w_ifY {c A B : Prop} [Decidable c] (h : c) (k : A) : if decide c = true then A else B := by rw [decide_eq_true h]; exact k
theorem w_ifZ {c A B : Prop} [Decidable c] (h : ¬ c) (k : B) : if decide c = true then A else B := by rw [decide_eq_false h]; exact k
theorem w_ifnY {c A B : Prop} [Decidable c] (h : c) (k : B) : if (!decide c) = true then A else B := by rw [decide_eq_true h]; exact k
theorem w_ifnZ {c A B : Prop} [Decidable c] (h : ¬ c) (k : A) : if (!decide c) = true then A else B := by rw [decide_eq_false h]; exact k
theorem w_intY {c : Prop} [Decidable c] (h : c) (k : Q (.int 1) H) : gIntC [.bl (decide c)] H Q := by rw [decide_eq_true h]; exact .inr ⟨true, rfl, k⟩
theorem w_intZ {c : Prop} [Decidable c] (h : ¬ c) (k : Q (.int 0) H) : gIntC [.bl (decide c)] H Q := by rw [decide_eq_false h]; exact .inr ⟨false, rfl, k⟩
theorem w_ifB {A B : Prop} (h1 : b = true → A) (h2 : b = false → B) : if b = true then A else B := by
  cases b
  · exact h2 rfl
  · exact h1 rfl
theorem w_ifT {A B : Prop} (h : A) : if true = true then A else B := h
theorem w_ifF {A B : Prop} (h : B) : if false = true then A else B := h
theorem w_ifNT {A B : Prop} (h : B) : if (!true) = true then A else B := h
theorem w_ifNF {A B : Prop} (h : A) : if (!false) = true then A else B := h
/-! statements -/
theorem w_seq {n c d : L2.St → Hp → Prop} {r : VK} (k : t1 (En (t2 (En n r c d)) r c d) σ H) : tSeq t1 t2 (En n r c d) σ H := k
theorem w_asg {n : Nat} (k : te σ H fun x H1 => NX D (σ.set n (some x)) H1) : tAsg te (gName n) D σ H := k
theorem w_asgG {g : TG} (k : te σ H fun x H1 => g x σ H1 (NX D)) : tAsg te g D σ H := k
def Par (n m : Nat) (D : Ends) (σ : L2.St) (vs : List V) (H : Hp) : Prop := ∃ v w, vs = [v, w] ∧ D.nx ((σ.set n (some v)).set m (some w)) H
theorem w_par {n m : Nat} {t : TA} (k : t σ H fun vs H1 => Par n m D σ vs H1) : tPar n m t D σ H := k
theorem w_parE {n m : Nat} (k : NX D ((σ.set n (some x)).set m (some y)) H) : Par n m D σ [x, y] H := ⟨x, y, rfl, k⟩
def Par3 (n m l : Nat) (D : Ends) (σ : L2.St) (vs : List V) (H : Hp) : Prop := ∃ u v w, vs = [u, v, w] ∧ D.nx (((σ.set n (some u)).set m (some v)).set l (some w)) H
theorem w_par3 {n m l : Nat} {t : TA} (k : t σ H fun vs H1 => Par3 n m l D σ vs H1) : tPar3 n m l t D σ H := k
theorem w_par3E {n m l : Nat} {z : V} (k : NX D (((σ.set n (some x)).set m (some y)).set l (some z)) H) : Par3 n m l D σ [x, y, z] H := ⟨x, y, z, rfl, k⟩
theorem w_aug {n : Nat} {ti : TIp} (h : σ[n]? = some (some x)) (k : te σ H fun y H1 => ti x y H1 fun z H2 => NX D (σ.set n (some z)) H2) : tAug n te ti D σ H := ⟨x, h, k⟩
theorem w_ret (k : te σ H fun v H1 => RT D v H1) : tRet te D σ H := k
theorem w_drop (k : te σ H fun _ H1 => NX D σ H1) : tDrop te D σ H := k
theorem w_ifs (k : tt σ H fun b H1 => if b = true then t1 D σ H1 else t2 D σ H1) : tIfS tt t1 t2 D σ H := k
theorem w_next (k : NX D σ H) : tNext D σ H := k
theorem w_nx {n c d : L2.St → Hp → Prop} {r : VK} (k : n σ H) : NX (En n r c d) σ H := k
theorem w_rt {n c d : L2.St → Hp → Prop} {r : VK} (k : r v H) : RT (En n r c d) v H := k
theorem w_start {n : L2.St → Hp → Prop} {r : VK} {t : TS} (k : t (En n r (fun _ _ => False) (fun _ _ => False)) σ H) : t { nx := n, rt := r } σ H := k
theorem w_gname {n : Nat} {R : L2.St → Hp → Prop} (k : R (σ.set n (some v)) H) : gName n v σ H R := k
theorem w_gnil {R : L2.St → Hp → Prop} (k : R σ H) : gNil [] σ H R := ⟨rfl, k⟩
theorem w_gcons {g : TG} {u : TGs} {r : List V} {R : L2.St → Hp → Prop} (k : g v σ H fun σ' H' => u r σ' H' R) : gCons g u (v :: r) σ H R := ⟨v, r, rfl, k⟩
theorem w_gtup {a : Addr} {xs : List V} {n : Nat} {u : TGs} {R : L2.St → Hp → Prop} (h : SqT K H a xs) (l : xs.length = n) (k : u xs σ H R) : gTup2 K n u (.ref a) σ H R := ⟨a, xs, rfl, h, l, k⟩
theorem w_gsub {to ti : TE} {t : TSet} {R : L2.St → Hp → Prop} (k : to σ H fun o H1 => ti σ H1 fun i H2 => t o i v H2 fun H3 => R σ H3) : gSub to ti t v σ H R := k
theorem w_setL {l : Addr} {xs : List V} {n : Nat} {R : Hp → Prop} (h : H l = some (.lst xs)) (e : ixN xs.length i = some n) (k : ∀ H', Kp l H H' → H' l = some (.lst (xs.set n v)) → R H') : rSetL (.ref l) (.int i) v H R :=
  ⟨l, xs, i, n, rfl, rfl, h, e, k _ kp_upd upd_same⟩
theorem w_bm {T : String} {r : V → List V → Hp → VK → Prop} {to : TE} {t : TA} (k : to σ H fun x H1 => BmE K T x H1 (t σ H1 fun xs H2 => r x xs H2 Q)) : tBM K T r to t σ H Q := k
theorem w_bmL {l : Addr} {xs : List V} {R : Prop} (h : H l = some (.lst xs)) (k : R) : BmE K "list" (.ref l) H R := ⟨.inl ⟨rfl, xs, Or.inl (Or.inl h)⟩, k⟩
theorem w_app {l : Addr} {xs : List V} (h : H l = some (.lst xs)) (z : xs.length < sizeLine) (k : ∀ H', Kp l H H' → H' l = some (.lst (xs ++ [v])) → Q .non H') : rAppend (.ref l) [v] H Q :=
  ⟨l, xs, v, rfl, rfl, h, z, k _ kp_upd upd_same⟩
theorem ty_list {l : Addr} {xs : List V} (h : H l = some (.lst xs)) : tyV K "list" (.ref l) H := .inl ⟨rfl, xs, sq_of h⟩
theorem w_slL {a : Addr} {xs : List V} {lo hi : Option Int} (h : SqL K H a xs) (k : ∀ p H', H p = none → Sm H H' → H' p = some (.lst (cutV xs lo hi)) → Q (.ref p) H') : gSl K (.ref a) lo hi H Q := .inl ⟨a, xs, rfl, h, fun p hp => k p _ hp (sm_new hp) upd_same⟩
theorem cut_whole {xs : List V} {lo hi : Option Int} (h : HT.sIx xs.length 0 lo = 0 ∧ HT.sIx xs.length xs.length hi = xs.length) : cutV xs lo hi = xs := by
  unfold cutV
  rw [h.1, h.2, List.drop_zero, Nat.sub_zero, List.take_length]
theorem w_slT {a : Addr} {xs : List V} {lo hi : Option Int} (h : H a = some (.tup xs)) (k : ∀ p H', Sm H H' → H' p = some (.tup (cutV xs lo hi)) → Q (.ref p) H') : gSl K (.ref a) lo hi H Q :=
  .inr ⟨a, xs, rfl, st_of h, fun w => k a H (Same.refl _) (by rw [cut_whole w]; exact h), fun _ p hp => k p _ (sm_new hp) upd_same⟩
theorem w_catT {a b : Addr} {xs ys : List V} (h1 : H a = some (.tup xs)) (h2 : H b = some (.tup ys)) (z : xs.length + ys.length ≤ sizeLine) (k : ∀ p H', Sm H H' → H' p = some (.tup (xs ++ ys)) → Q (.ref p) H') : gAdd K (.ref a) (.ref b) H Q :=
  .inr (.inr (.inr ⟨a, b, xs, ys, rfl, rfl, st_of h1, st_of h2, z, fun e => k b H (Same.refl _) (by rw [e]; exact h2), fun _ e => k a H (Same.refl _) (by rw [e, List.append_nil]; exact h1), fun _ _ p hp => k p _ (sm_new hp) upd_same⟩))
theorem w_sl {r : V → Option Int → Option Int → Hp → VK → Prop} {tl th : TO} (k : te σ H fun x H1 => tl σ H1 fun l H2 => th σ H2 fun u H3 => r x l u H3 Q) : tSl r te tl th σ H Q := k
theorem w_po0 {R : Option Int → Hp → Prop} (k : R none H) : tNoPart σ H R := k
theorem w_po1 {R : Option Int → Hp → Prop} (k : te σ H fun x H1 => PartE R x H1) : tPart te σ H R := k
theorem w_poE {R : Option Int → Hp → Prop} (k : R (some i) H) : PartE R (.int i) H := ⟨i, rfl, k⟩
theorem w_clear {l : Addr} {xs : List V} (h : H l = some (.lst xs)) (k : ∀ H', Kp l H H' → H' l = some (.lst []) → Q .non H') : tyV K "list" (.ref l) H ∧ rClear (.ref l) [] H Q :=
  ⟨ty_list h, l, xs, rfl, rfl, h, k _ kp_upd upd_same⟩
end
/-! a field read inside a comprehension: the context's K is named -/
theorem pe_fldK {X : Cx} {K : PySem.W.Frag} (hK : X.K = K) {e : Expr} {f : Str} {pos : Pos} {ta : TE} (he : PE X e ta) (hb : attributeBase e f X.env (eval e X.env) = eval e X.env) : PE X (.Attribute e f pos) (tFld K ta f) := by
  rw [← hK]
  exact pe_fld he hb
end Rs
namespace Rs
open PySem L2 PyProof.Rows PySem.NumText
/-! ### the walk's own words -/
local macro_rules | `(tactic| tm_at "rlk") => `(tactic| first | with_reducible assumption | ((refine' g_lk ?sg ?sh); (case sg => with_reducible assumption); (case sh => tm_at "rlk0")) | fail "no")
local macro_rules | `(tactic| tm_at "rlk0") => `(tactic| first | with_reducible assumption | (refine' Same.get ?sa ?sb; (case sa => with_reducible assumption); (case sb => tm_at "rlk0")) | (refine' Kp.get ?sa ?sc ?sb; (case sa => with_reducible assumption); (case sc => tm_at "rne"); (case sb => tm_at "rlk0")) | fail "no")
local macro_rules | `(tactic| tm_at "rne") => `(tactic| first | with_reducible assumption | (apply Ne.symm; assumption) | (refine' ne_new ?sa ?sb; (case sa => with_reducible assumption); (case sb => tm_at "rlk")) | (refine' ne_new2 ?sa ?sb; (case sa => with_reducible assumption); (case sb => tm_at "rlk")) | fail "no")
local macro_rules | `(tactic| tm_at "rsf") => `(tactic| first | with_reducible assumption | ((refine' g_sqf ?sg ?sh); (case sg => with_reducible assumption); (case sh => tm_at "rsf0")) | fail "no")
local macro_rules | `(tactic| tm_at "rsf0") => `(tactic| first | with_reducible assumption | ((refine' SqF.sm ?sa ?sb); (case sb => with_reducible assumption); (case sa => tm_at "rsf0")) | ((refine' SqF.kp ?sa ?sc ?sb); (case sb => with_reducible assumption); (case sc => tm_at "rlk"); (case sa => tm_at "rsf0")) | fail "no")
local macro_rules | `(tactic| tm_at "rsq") => `(tactic| first | with_reducible assumption | ((refine' SqF.sq ?sz); (case sz => tm_at "rsf")) | ((refine' sq_of ?sz); (case sz => tm_at "rlk")) | (refine' sm_sq ?sa ?sb; (case sa => with_reducible assumption); (case sb => tm_at "rsq")) | (refine' kp_sq ?sa ?sc ?sb; (case sa => with_reducible assumption); (case sc => tm_at "rne"); (case sb => tm_at "rsq")) | fail "no")
local macro_rules | `(tactic| tm_at "rst") => `(tactic| first | with_reducible assumption | ((refine' st_of ?sz); (case sz => tm_at "rlk")) | fail "no")
local macro_rules | `(tactic| tm_at "rat") => `(tactic| first | with_reducible assumption | exact atI_nat (j := 0) rfl | exact atI_nat (j := 1) rfl | exact atI_nat (j := 2) rfl | exact atI_nat (j := 3) rfl | exact atI_nat (j := 4) rfl | exact atI_nat (j := 5) rfl | fail "no")
local macro_rules | `(tactic| tm_at "rsz") => `(tactic| first | with_reducible assumption | exact sz_of (Nat.le_of_ble_eq_true rfl) | (apply sz_of; omega) | ((refine sz_of (Nat.le_trans (Nat.add_le_add_left (cutV_length _ _ _) _) ?_)); omega) | ((refine sz_of (Nat.le_trans (Nat.add_le_add_left (cutV_length _ _ _) _) ?_)); (simp only [List.length_cons, List.length_nil, List.length_append]); omega) | (apply sz_lt; omega) | ((apply sz_of); (simp only [List.length_cons, List.length_nil, List.length_append]); omega) | ((apply sz_lt); (simp only [List.length_cons, List.length_nil, List.length_append]); omega) | ((apply sz_of); (simp only [List.length_cons, List.length_nil, List.length_append, List.length_take, List.length_drop, List.length_map, List.length_replicate, List.length_set]); omega) | ((apply sz_lt); (simp only [List.length_cons, List.length_nil, List.length_append, List.length_take, List.length_drop, List.length_map, List.length_replicate, List.length_set]); omega) | decide | fail "no")
local macro_rules | `(tactic| tm_at "rc") => `(tactic| first | with_reducible assumption | exact .inl (.inl (by decide)) | exact .inl (.inr (by decide)) | exact .inl (.inl ⟨by omega, by omega⟩) | exact .inl (.inr ⟨by omega, by omega⟩) | fail "no")
local macro_rules | `(tactic| tm_at "rfr") => `(tactic| first | with_reducible assumption | ((refine' g_fr ?sg ?sh); (case sg => with_reducible assumption); (case sh => tm_at "rfr0")) | fail "no")
local macro_rules | `(tactic| tm_at "rfr0") => `(tactic| first | with_reducible assumption | ((refine' Same.free ?sa ?sb); (case sa => with_reducible assumption); (case sb => tm_at "rfr0")) | ((refine' kp_free ?sa ?sc ?sb); (case sa => with_reducible assumption); (case sb => tm_at "rfr0"); (case sc => tm_at "rne")) | fail "no")
local macro_rules | `(tactic| tm_at "rsm") => `(tactic| first | with_reducible assumption | exact Same.refl _ | ((refine' Same.trans ?sa ?sb); (case sb => with_reducible assumption); (case sa => tm_at "rsm")) | ((refine' sm_mut ?sa ?sc ?sb); (case sb => with_reducible assumption); (case sc => tm_at "rfr"); (case sa => tm_at "rsm")) | fail "no")
local macro_rules | `(tactic| tm_at "rkp") => `(tactic| first | with_reducible assumption | exact Kp.refl _ | ((refine' Kp.trans ?sa ?sb); (case sb => first | with_reducible assumption | exact Kp.of (by with_reducible assumption)); (case sa => tm_at "rkp")) | ((refine' kp_mut ?sa ?sc ?sb); (case sb => with_reducible assumption); (case sc => tm_at "rfr"); (case sa => tm_at "rkp")) | fail "no")
local macro_rules | `(tactic| tm_at "rs") => `(tactic| first
  | ((with_reducible refine' w_var ?h ?k); (case h => rfl))
  | with_reducible refine w_seq ?_
  | with_reducible refine w_nx ?_
  | with_reducible refine w_rt ?_
  | with_reducible refine w_c ?_
  | with_reducible refine w_op ?_
  | with_reducible refine w_un ?_
  | with_reducible refine w_rU ?_
  | with_reducible refine w_cb ?_
  | with_reducible refine w_cons ?_
  | with_reducible refine w_nil ?_
  | with_reducible refine w_asg ?_
  | with_reducible refine w_ret ?_
  | with_reducible refine w_ifs ?_
  | with_reducible refine w_call ?_
  | with_reducible refine w_callK ?_
  | with_reducible refine w_test ?_
  | with_reducible refine w_isbl ?_
  | with_reducible refine w_addI ?_
  | with_reducible refine w_I0 ?_
  | ((with_reducible refine w_andF ?h ?i (fun _ _ _ _ _ => ?_)); (case h => omega); (case i => omega))
  | with_reducible refine w_andI ?_
  | with_reducible refine w_ltI ?_
  | with_reducible refine w_leI ?_
  | with_reducible refine w_gtI ?_
  | with_reducible refine w_geI ?_
  | with_reducible refine w_eqI ?_
  | with_reducible refine w_neI ?_
  | with_reducible refine w_isN0 ?_
  | with_reducible refine w_notN0 ?_
  | ((with_reducible refine w_isNx ?h ?_); (case h => (intro e; cases e)))
  | ((with_reducible refine w_notNx ?h ?_); (case h => (intro e; cases e)))
  | with_reducible refine w_isBT ?_
  | with_reducible refine w_notBT ?_
  | with_reducible refine w_eqB ?_
  | with_reducible refine w_neB ?_
  | ((with_reducible refine w_orF ?h ?i (fun _ _ _ _ => ?_)); (case h => omega); (case i => omega))
  | with_reducible refine w_eqS ?_
  | with_reducible refine w_neS ?_
  | with_reducible refine w_max ?_
  | with_reducible refine w_min ?_
  | with_reducible refine w_intI ?_
  | with_reducible refine w_lst ?_
  | with_reducible refine w_tup ?_
  | with_reducible refine w_ifT ?_
  | with_reducible refine w_ifNT ?_
  | with_reducible refine w_ifNF ?_
  | with_reducible refine w_ifF ?_
  | with_reducible refine w_or ?_
  | with_reducible refine w_and ?_
  | with_reducible refine w_not ?_
  | with_reducible refine w_ife ?_
  | with_reducible refine w_andV ?_
  | with_reducible refine w_orV ?_
  | with_reducible refine w_notV ?_
  | with_reducible refine w_B ?_
  | with_reducible refine w_next ?_
  | with_reducible refine w_drop ?_
  | with_reducible refine w_par ?_
  | with_reducible refine w_parE ?_
  | with_reducible refine w_par3 ?_
  | with_reducible refine w_par3E ?_
  | with_reducible refine w_asgG ?_
  | with_reducible refine w_gsub ?_
  | with_reducible refine w_bm ?_
  | with_reducible refine w_sl ?_
  | with_reducible refine w_po0 ?_
  | with_reducible refine w_po1 ?_
  | with_reducible refine w_poE ?_
  | with_reducible refine w_for ?_
  | with_reducible refine w_iR1 ?_
  | with_reducible refine w_iR2 ?_
  | with_reducible refine w_iL ?_
  | with_reducible refine w_iT ?_
  | with_reducible refine w_sp ?_
  | ((with_reducible refine' w_aug ?h ?k); (case h => rfl))
  | with_reducible refine w_wt ?_
  | with_reducible refine w_shr1 ?_
  | with_reducible refine w_iaddI ?_
  | with_reducible refine w_xorI ?_
  | with_reducible refine w_isiIb ?_
  | with_reducible refine w_isiIi ?_
  | with_reducible refine w_isiBb ?_
  | with_reducible refine w_isiSs ?_
  | with_reducible refine w_gname ?_
  | with_reducible refine w_gnil ?_
  | with_reducible refine w_gcons ?_
  | ((with_reducible refine' w_gtup ?h ?l ?k); (case h => tm_at "rst"); (case l => rfl))
  | ((with_reducible refine w_imulI ?h ?_); (case h => tm_at "rc"))
  | ((with_reducible refine w_shl1F ?h ?i (fun _ _ _ _ _ _ => ?_)); (case h => omega); (case i => omega))
  | with_reducible refine w_bits ?_
  | with_reducible refine w_bitsE (fun _ _ _ => ?_)
  | ((with_reducible refine w_shlI ?h ?_); (case h => first | assumption | exact ⟨by decide, by decide⟩))
  | ((with_reducible refine w_modI ?h ?_); (case h => decide))
  | ((with_reducible refine w_modF ?h (fun _ _ _ _ _ => ?_)); (case h => omega))
  | ((with_reducible refine w_divI ?h ?_); (case h => (first | assumption | exact ⟨by decide, by decide +kernel⟩ | exact ⟨by assumption, by assumption⟩)))
  | ((with_reducible refine w_mulI ?h ?_); (case h => tm_at "rc"))
  | ((with_reducible refine w_powI ?h ?_); (case h => exact ⟨by decide, by decide, by decide +kernel⟩))
  | ((with_reducible refine w_shrI ?h ?_); (case h => (first | decide | omega)))
  | ((with_reducible refine w_intY ?h ?_); (case h => decide +kernel))
  | ((with_reducible refine w_intZ ?h ?_); (case h => decide +kernel))
  | with_reducible refine w_intD (fun _ => ?_) (fun _ => ?_)
  | with_reducible refine w_intDn (fun _ => ?_) (fun _ => ?_)
  | with_reducible refine w_intB (fun _ => ?_) (fun _ => ?_)
  | ((with_reducible refine' w_lenL ?h ?k); (case h => tm_at "rsq"))
  | ((with_reducible refine' w_lenT ?h ?k); (case h => tm_at "rst"))
  | ((with_reducible refine' w_ixL ?h ?a ?k); (case h => tm_at "rsq"); (case a => tm_at "rat"))
  | ((with_reducible refine' w_ixT ?h ?a ?k); (case h => tm_at "rst"); (case a => tm_at "rat"))
  | ((with_reducible refine w_newL ?h (fun _ _ _ _ _ => ?_)); (case h => exact sz_of (Nat.le_of_ble_eq_true rfl)))
  | ((with_reducible refine w_newT ?h (fun _ _ _ _ _ => ?_)); (case h => exact sz_of (Nat.le_of_ble_eq_true rfl)))
  | ((with_reducible refine' w_ix2I ?h ?a ?b (fun _ _ => ?k)); (case h => tm_at "rsq"); (case a => omega); (case b => omega))
  | ((with_reducible refine' w_ix3I ?h ?a ?b (fun _ _ => ?k)); (case h => tm_at "rsq"); (case a => omega); (case b => omega))
  | ((with_reducible refine' w_ix4I ?h ?a ?b (fun _ _ => ?k)); (case h => tm_at "rsq"); (case a => omega); (case b => omega))
  | ((with_reducible refine' w_ix5I ?h ?a ?b (fun _ _ => ?k)); (case h => tm_at "rsq"); (case a => omega); (case b => omega))
  | ((with_reducible refine' w_ix6I ?h ?a ?b (fun _ _ => ?k)); (case h => tm_at "rsq"); (case a => omega); (case b => omega))
  | ((with_reducible refine' w_ix7I ?h ?a ?b (fun _ _ => ?k)); (case h => tm_at "rsq"); (case a => omega); (case b => omega))
  | ((with_reducible refine' w_ix8I ?h ?a ?b (fun _ _ => ?k)); (case h => tm_at "rsq"); (case a => omega); (case b => omega))
  | ((with_reducible refine' w_sum ?h ?k); (case h => tm_at "rsq"))
  | ((with_reducible refine' w_all ?h ?k); (case h => tm_at "rsq"))
  | with_reducible refine w_lc ?_
  | with_reducible refine w_yes ?_
  | ((with_reducible refine w_lcGo ?h ?_); (case h => rfl))
  | ((with_reducible refine' w_lcEnd ?h ?z (fun _ _ _ => ?k)); (case h => tm_at "rlk"); (case z => tm_at "rsz"))
  | ((with_reducible refine w_ifY ?h ?_); (case h => decide +kernel))
  | ((with_reducible refine w_ifZ ?h ?_); (case h => decide +kernel))
  | ((with_reducible refine w_ifnY ?h ?_); (case h => decide +kernel))
  | ((with_reducible refine w_ifnZ ?h ?_); (case h => decide +kernel))
  | with_reducible refine w_if (fun _ => ?_) (fun _ => ?_)
  | with_reducible refine w_ifn (fun _ => ?_) (fun _ => ?_)
  | with_reducible refine w_ifnn (fun _ => ?_) (fun _ => ?_)
  | ((with_reducible refine' w_setL ?h ?e (fun _ _ _ => ?k)); (case h => tm_at "rlk"); (case e => rfl))
  | ((with_reducible refine' w_bmL ?h ?k); (case h => tm_at "rlk"))
  | ((with_reducible refine' w_app ?h ?z (fun _ _ _ => ?k)); (case h => tm_at "rlk"); (case z => tm_at "rsz"))
  | ((with_reducible refine' w_slL ?h (fun _ _ _ _ _ => ?k)); (case h => tm_at "rsq"))
  | ((with_reducible refine' w_slT ?h (fun _ _ _ _ => ?k)); (case h => tm_at "rlk"))
  | ((with_reducible refine' w_addL ?h ?i ?z (fun _ _ _ _ _ => ?k)); (case h => tm_at "rlk"); (case i => tm_at "rlk"); (case z => tm_at "rsz"))
  | ((with_reducible refine' w_catT ?h ?i ?z (fun _ _ _ _ => ?k)); (case h => tm_at "rlk"); (case i => tm_at "rlk"); (case z => tm_at "rsz"))
  | ((with_reducible refine' w_inS2 ?h ?k); (case h => tm_at "rst"))
  | ((with_reducible refine' w_niS2 ?h ?k); (case h => tm_at "rst"))
  | ((with_reducible refine' w_isiTup ?h ?k); (case h => tm_at "rlk"))
  | ((with_reducible refine' w_clear ?h (fun _ _ _ => ?k)); (case h => tm_at "rlk"))
  | ((with_reducible refine' w_iLe ?h ?k); (case h => tm_at "rsq"))
  | ((with_reducible refine' w_iTe ?h ?k); (case h => tm_at "rst"))
  | ((with_reducible refine w_iR1e ?h ?i ?_); (case h => omega); (case i => omega))
  | ((with_reducible refine w_iR2e ?h ?_); (case h => (refine ⟨?_, ?_, ?_, ?_⟩ <;> omega)))
  | fail "no")
def topS (i : Nat) : Stmt := PySem.Challenge.pw_runsums_k32_sayings_of_programs.main.body.getD i (.Pass ⟨0, 0, 0, 0⟩)
abbrev s_f_law_take : Stmt := topS 40
theorem sc_f_law_take : FnScope ["box", "wide", "digit", "one"] ["box", "wide"] (defScope s_f_law_take) := ⟨rfl, rfl, rfl, by decide +kernel, rfl, by decide +kernel, by decide +kernel⟩
abbrev s_f_law_piece : Stmt := topS 43
theorem sc_f_law_piece : FnScope ["box", "boxes", "at", "form", "j", "some", "k", "body"] ["box", "boxes", "at"] (defScope s_f_law_piece) := ⟨rfl, rfl, rfl, by decide +kernel, rfl, by decide +kernel, by decide +kernel⟩
abbrev s_f_law_ending_rows : Stmt := topS 44
theorem sc_f_law_ending_rows : FnScope ["box", "boxes", "rows", "turn", "more"] ["box", "boxes"] (defScope s_f_law_ending_rows) := ⟨rfl, rfl, rfl, by decide +kernel, rfl, by decide +kernel, by decide +kernel⟩
abbrev s_f_law_row : Stmt := topS 41
theorem sc_f_law_row : FnScope ["box", "boxes", "many", "word"] ["box", "boxes", "many"] (defScope s_f_law_row) := ⟨rfl, rfl, rfl, by decide +kernel, rfl, by decide +kernel, by decide +kernel⟩
abbrev s_f_law_any_rows : Stmt := topS 42
theorem sc_f_law_any_rows : FnScope ["box", "boxes", "many", "rows", "k"] ["box", "boxes"] (defScope s_f_law_any_rows) := ⟨rfl, rfl, rfl, by decide +kernel, rfl, by decide +kernel, by decide +kernel⟩
abbrev s_f_law_some_program : Stmt := topS 45
theorem sc_f_law_some_program : FnScope ["box", "boxes"] ["box"] (defScope s_f_law_some_program) := ⟨rfl, rfl, rfl, by decide +kernel, rfl, by decide +kernel, by decide +kernel⟩
abbrev s_f_law_box : Stmt := topS 39
theorem sc_f_law_box : FnScope ["script", "k", "cell", "seed"] ["script", "k"] (defScope s_f_law_box) := ⟨rfl, rfl, rfl, by decide +kernel, rfl, by decide +kernel, by decide +kernel⟩
abbrev s_f_is_whole : Stmt := topS 7
theorem sc_f_is_whole : FnScope ["thing"] ["thing"] (defScope s_f_is_whole) := ⟨rfl, rfl, rfl, by decide +kernel, rfl, by decide +kernel, by decide +kernel⟩
abbrev s_f_is_formed : Stmt := topS 8
theorem sc_f_is_formed : FnScope ["row", "thing"] ["row"] (defScope s_f_is_formed) := ⟨rfl, rfl, rfl, by decide +kernel, rfl, by decide +kernel, by decide +kernel⟩
abbrev s_f_check_row : Stmt := topS 9
theorem sc_f_check_row : FnScope ["row", "boxes", "many", "at", "word", "number"] ["row", "boxes", "many", "at"] (defScope s_f_check_row) := ⟨rfl, rfl, rfl, by decide +kernel, rfl, by decide +kernel, by decide +kernel⟩
abbrev s_f_check : Stmt := topS 10
theorem sc_f_check : FnScope ["boxes", "rows", "at", "row"] ["boxes", "rows"] (defScope s_f_check) := ⟨rfl, rfl, rfl, by decide +kernel, rfl, by decide +kernel, by decide +kernel⟩
abbrev s_f_Program__init : Stmt := (clsB (topS 12)).getD 0 (.Pass ⟨0, 0, 0, 0⟩)
theorem sc_f_Program__init : FnScope ["self", "boxes", "rows"] ["self", "boxes", "rows"] (defScope s_f_Program__init) := ⟨rfl, rfl, rfl, by decide +kernel, rfl, by decide +kernel, by decide +kernel⟩
abbrev s_f_law_asked : Stmt := topS 46
theorem sc_f_law_asked : FnScope ["boxes", "rows", "found", "j", "k", "row"] ["boxes", "rows"] (defScope s_f_law_asked) := ⟨rfl, rfl, rfl, by decide +kernel, rfl, by decide +kernel, by decide +kernel⟩
abbrev s_f_law_named : Stmt := topS 48
theorem sc_f_law_named : FnScope ["letter", "numbers", "k"] ["letter", "numbers"] (defScope s_f_law_named) := ⟨rfl, rfl, rfl, by decide +kernel, rfl, by decide +kernel, by decide +kernel⟩
abbrev s_f_law_row_sayings : Stmt := topS 50
theorem sc_f_law_row_sayings : FnScope ["rows", "k", "done", "left", "row", "e"] ["rows", "k", "done", "left"] (defScope s_f_law_row_sayings) := ⟨rfl, rfl, rfl, by decide +kernel, rfl, by decide +kernel, by decide +kernel⟩
abbrev s_f_law_sum : Stmt := topS 47
theorem sc_f_law_sum : FnScope ["terms", "found", "term"] ["terms"] (defScope s_f_law_sum) := ⟨rfl, rfl, rfl, by decide +kernel, rfl, by decide +kernel, by decide +kernel⟩
abbrev s_f_law_sayings : Stmt := topS 49
theorem sc_f_law_sayings : FnScope ["boxes", "rows", "one", "two", "s", "c", "h", "d", "q", "g", "i", "m", "sign", "xs", "ys", "boxed", "done", "peak", "found", "r", "l", "stops", "k", "row", "j", "e", "raised", "sunk", "left", "right"] ["boxes", "rows"] (defScope s_f_law_sayings) := ⟨rfl, rfl, rfl, by decide +kernel, rfl, by decide +kernel, by decide +kernel⟩
abbrev s_f_sum_of : Stmt := topS 19
theorem sc_f_sum_of : FnScope ["terms", "found", "k", "term"] ["terms"] (defScope s_f_sum_of) := ⟨rfl, rfl, rfl, by decide +kernel, rfl, by decide +kernel, by decide +kernel⟩
abbrev s_f_named : Stmt := topS 29
theorem sc_f_named : FnScope ["letter", "number"] ["letter", "number"] (defScope s_f_named) := ⟨rfl, rfl, rfl, by decide +kernel, rfl, by decide +kernel, by decide +kernel⟩
abbrev s_f_Saying__init : Stmt := (clsB (topS 25)).getD 0 (.Pass ⟨0, 0, 0, 0⟩)
theorem sc_f_Saying__init : FnScope ["self", "word", "left", "right"] ["self", "word", "left", "right"] (defScope s_f_Saying__init) := ⟨rfl, rfl, rfl, by decide +kernel, rfl, by decide +kernel, by decide +kernel⟩
abbrev s_f_power_at : Stmt := topS 31
theorem sc_f_power_at : FnScope ["steps"] ["steps"] (defScope s_f_power_at) := ⟨rfl, rfl, rfl, by decide +kernel, rfl, by decide +kernel, by decide +kernel⟩
abbrev s_f_top : Stmt := topS 32
theorem sc_f_top : FnScope [] [] (defScope s_f_top) := ⟨rfl, rfl, rfl, by decide +kernel, rfl, by decide +kernel, by decide +kernel⟩
abbrev s_f_Program__len : Stmt := (clsB (topS 12)).getD 2 (.Pass ⟨0, 0, 0, 0⟩)
theorem sc_f_Program__len : FnScope ["self"] ["self"] (defScope s_f_Program__len) := ⟨rfl, rfl, rfl, by decide +kernel, rfl, by decide +kernel, by decide +kernel⟩
abbrev s_f_base_sayings : Stmt := topS 33
theorem sc_f_base_sayings : FnScope ["program", "xs", "j", "q", "h", "i", "found"] ["program"] (defScope s_f_base_sayings) := ⟨rfl, rfl, rfl, by decide +kernel, rfl, by decide +kernel, by decide +kernel⟩
abbrev s_f_goal_of : Stmt := topS 13
theorem sc_f_goal_of : FnScope ["program", "k", "row"] ["program", "k"] (defScope s_f_goal_of) := ⟨rfl, rfl, rfl, by decide +kernel, rfl, by decide +kernel, by decide +kernel⟩
abbrev s_f_asked_boxes : Stmt := topS 16
theorem sc_f_asked_boxes : FnScope ["program", "found", "k", "row"] ["program"] (defScope s_f_asked_boxes) := ⟨rfl, rfl, rfl, by decide +kernel, rfl, by decide +kernel, by decide +kernel⟩
abbrev s_f_rows_named : Stmt := topS 30
theorem sc_f_rows_named : FnScope ["rows", "k"] ["rows"] (defScope s_f_rows_named) := ⟨rfl, rfl, rfl, by decide +kernel, rfl, by decide +kernel, by decide +kernel⟩
abbrev s_f_time_sayings : Stmt := topS 34
theorem sc_f_time_sayings : FnScope ["program", "rows", "stops", "k", "found", "j", "twice"] ["program"] (defScope s_f_time_sayings) := ⟨rfl, rfl, rfl, by decide +kernel, rfl, by decide +kernel, by decide +kernel⟩
abbrev s_f_row_sayings : Stmt := topS 35
theorem sc_f_row_sayings : FnScope ["program", "k", "row", "left", "onward", "either"] ["program", "k"] (defScope s_f_row_sayings) := ⟨rfl, rfl, rfl, by decide +kernel, rfl, by decide +kernel, by decide +kernel⟩
abbrev s_f_moves_of : Stmt := topS 14
theorem sc_f_moves_of : FnScope ["program", "j", "word", "k", "row"] ["program", "j", "word"] (defScope s_f_moves_of) := ⟨rfl, rfl, rfl, by decide +kernel, rfl, by decide +kernel, by decide +kernel⟩
abbrev s_f_box_saying : Stmt := topS 36
theorem sc_f_box_saying : FnScope ["program", "j", "q", "r", "raised", "lowered", "left", "right"] ["program", "j"] (defScope s_f_box_saying) := ⟨rfl, rfl, rfl, by decide +kernel, rfl, by decide +kernel, by decide +kernel⟩
abbrev s_f_sayings_of : Stmt := topS 37
theorem sc_f_sayings_of : FnScope ["program", "found", "k", "j"] ["program"] (defScope s_f_sayings_of) := ⟨rfl, rfl, rfl, by decide +kernel, rfl, by decide +kernel, by decide +kernel⟩
abbrev s_f_Program__eq : Stmt := (clsB (topS 12)).getD 1 (.Pass ⟨0, 0, 0, 0⟩)
theorem sc_f_Program__eq : FnScope ["self", "other"] ["self", "other"] (defScope s_f_Program__eq) := ⟨rfl, rfl, rfl, by decide +kernel, rfl, by decide +kernel, by decide +kernel⟩
abbrev s_f_law_right : Stmt := topS 51
theorem sc_f_law_right : FnScope ["boxes", "rows", "program", "due", "turn", "found", "one"] ["boxes", "rows"] (defScope s_f_law_right) := ⟨rfl, rfl, rfl, by decide +kernel, rfl, by decide +kernel, by decide +kernel⟩
abbrev s_f_law : Stmt := topS 52
theorem sc_f_law : FnScope ["script", "asked", "k", "boxes", "rows"] ["script"] (defScope s_f_law) := ⟨rfl, rfl, rfl, by decide +kernel, rfl, by decide +kernel, by decide +kernel⟩
def gg_f_named_p1 {α : Type} : List α → List α → List α → List α
  | [d0], [a0], [] => [a0, d0]
  | _, _, _ => []
def gk_f_named_p1 : List V → List V → List V := fun vs zs => gg_f_named_p1 [V.str ""] vs zs
theorem rel_gg_f_named_p1 {vs zs : List V} {us ws its : List Value} (r1 : Vals vs us) (r2 : Vals zs ws) (r3 : Vals [V.str ""] its) : Vals (gg_f_named_p1 [V.str ""] vs zs) (gg_f_named_p1 its us ws) := by
  rcases r1 with _ | ⟨p0, _ | ⟨p1, _⟩⟩ <;> rcases r2 with _ | ⟨q0, _⟩ <;> rcases r3 with _ | ⟨s0, _ | ⟨s1, _⟩⟩ <;> (first | exact Paired.nil | (repeat' (first | exact Paired.nil | assumption | refine Paired.cons ?_ ?_)))
theorem cgk_f_named_p1 {a0 : V} {sp : Sp} {H : Hp} {Q : VK} {E : XK} (k : sp [a0, (V.str "")] H Q E) : sp (gk_f_named_p1 [a0] []) H Q E := k
local macro_rules | `(tactic| tm_at "rs") => `(tactic| with_reducible refine cgk_f_named_p1 ?_)
theorem kb_f_named_p1 {K : PySem.W.Frag} {f : Addr} {fd : FuncData} (F : FunD K "named" "named" (defArgs s_f_named) (defBody s_f_named) (defScope s_f_named) [V.str ""] [] f fd) : ∃ g, KBinds K fd ["letter", "number"] [] g gk_f_named_p1 :=
  kb_dfl F (by intro h; cases h) gg_f_named_p1 rel_gg_f_named_p1 fun _ _ _ _ _ _ _ us ws its l1 l2 => match its, us, ws, l1, l2 with | [d0], [a0], [], _, _ => ⟨_, rfl, rfl⟩
def gg_f_named_p2 {α : Type} : List α → List α → List α → List α
  | [d0], [a0, a1], [] => [a0, a1]
  | _, _, _ => []
def gk_f_named_p2 : List V → List V → List V := fun vs zs => gg_f_named_p2 [V.str ""] vs zs
theorem rel_gg_f_named_p2 {vs zs : List V} {us ws its : List Value} (r1 : Vals vs us) (r2 : Vals zs ws) (r3 : Vals [V.str ""] its) : Vals (gg_f_named_p2 [V.str ""] vs zs) (gg_f_named_p2 its us ws) := by
  rcases r1 with _ | ⟨p0, _ | ⟨p1, _ | ⟨p2, _⟩⟩⟩ <;> rcases r2 with _ | ⟨q0, _⟩ <;> rcases r3 with _ | ⟨s0, _ | ⟨s1, _⟩⟩ <;> (first | exact Paired.nil | (repeat' (first | exact Paired.nil | assumption | refine Paired.cons ?_ ?_)))
theorem cgk_f_named_p2 {a0 a1 : V} {sp : Sp} {H : Hp} {Q : VK} {E : XK} (k : sp [a0, a1] H Q E) : sp (gk_f_named_p2 [a0, a1] []) H Q E := k
local macro_rules | `(tactic| tm_at "rs") => `(tactic| with_reducible refine cgk_f_named_p2 ?_)
theorem kb_f_named_p2 {K : PySem.W.Frag} {f : Addr} {fd : FuncData} (F : FunD K "named" "named" (defArgs s_f_named) (defBody s_f_named) (defScope s_f_named) [V.str ""] [] f fd) : ∃ g, KBinds K fd ["letter", "number"] [] g gk_f_named_p2 :=
  kb_dfl F (by intro h; cases h) gg_f_named_p2 rel_gg_f_named_p2 fun _ _ _ _ _ _ _ us ws its l1 l2 => match its, us, ws, l1, l2 with | [d0], [a0, a1], [], _, _ => ⟨_, rfl, rfl⟩
/-! a box of draws -/
def BoxAt (H : Hp) (b : Addr) : Prop := ∃ x s : Int, H b = some (.lst [.int x, .int s]) ∧ 0 ≤ x ∧ 0 ≤ s ∧ s ≤ 2147483629
theorem BoxAt.sm {H H' : Hp} {b : Addr} (h : BoxAt H b) (e : Sm H H') : BoxAt H' b := by
  obtain ⟨x, s, h, r⟩ := h
  exact ⟨x, s, e _ _ h, r⟩
theorem BoxAt.kp {H H' : Hp} {b c : Addr} (h : BoxAt H b) (n : b ≠ c) (e : Kp c H H') : BoxAt H' b := by
  obtain ⟨x, s, h, r⟩ := h
  exact ⟨x, s, e _ _ n h, r⟩
theorem BoxAt.lst {H : Hp} {b : Addr} (h : BoxAt H b) : ∃ xs, H b = some (.lst xs) := by
  obtain ⟨x, s, h, r⟩ := h
  exact ⟨_, h⟩
def Wd (w : Int) : Prop := 0 < w ∧ w.natAbs.log2 < 9000
theorem wd_of {w : Int} (h0 : 0 < w) (h : w ≤ 10 ^ 60) : Wd w := by
  refine ⟨h0, ?_⟩
  have h1 : w.natAbs ≠ 0 := by omega
  rw [Nat.log2_lt h1]
  have h2 : w.natAbs ≤ 10 ^ 60 := by omega
  exact Nat.lt_of_le_of_lt h2 (by decide +kernel)
theorem wd_pow {w : Int} {k : Nat} (h0 : 0 < w) (h : w ≤ 2 ^ k) (hk : k < 9000) : Wd w := by
  refine ⟨h0, ?_⟩
  have h1 : w.natAbs ≠ 0 := by omega
  rw [Nat.log2_lt h1]
  have h2 : (w.natAbs : Int) ≤ ((2 ^ k : Nat) : Int) := by
    rw [Int.natCast_pow]
    have e : ((w.natAbs : Nat) : Int) = w := by omega
    rw [e]; exact h
  have h3 : w.natAbs ≤ 2 ^ k := Int.ofNat_le.mp h2
  exact Nat.lt_of_le_of_lt h3 (Nat.pow_lt_pow_right (by decide) hk)
/-- 10 to the power of 800 -/
def N800 : Int := 10 ^ 800
theorem n800_pos : 10 ^ 60 < N800 := by decide +kernel
theorem n800_le : N800 < 2 ^ 2660 := by decide +kernel
theorem n800_eq : N800 = 10 ^ 800 := rfl
theorem wd_800 {w : Int} (h0 : 0 < w) (h : w ≤ N800 + 10) : Wd w := wd_pow (k := 2661) h0 (by
  have h1 := n800_le
  have h2 : (2 : Int) ^ 2660 + 10 ≤ 2 ^ 2661 := by decide +kernel
  exact Int.le_trans (Int.le_trans h (Int.le_of_lt (Int.add_lt_add_right h1 10))) h2) (by decide)
theorem wd_two {z j : Int} (e : z = 2 ^ j.toNat) (l : j < 9000) : Wd z := by
  have h1 : (1 : Int) ≤ 2 ^ j.toNat := by
    have := Nat.two_pow_pos j.toNat
    have h2 : (2 : Int) ^ j.toNat = ((2 ^ j.toNat : Nat) : Int) := by rw [Int.natCast_pow]; rfl
    omega
  exact wd_pow (k := j.toNat) (by omega) (by omega) (by omega)

theorem ne_newB {H : Hp} {p b : Addr} (hp : H p = none) (hb : BoxAt H b) : p ≠ b := by
  obtain ⟨x, s, h, _⟩ := hb
  exact ne_new hp h
theorem ne_newB2 {H : Hp} {p b : Addr} (hp : H p = none) (hb : BoxAt H b) : b ≠ p := (ne_newB hp hb).symm
theorem g_bx {H H0 : Hp} {b : Addr} (_ : BoxAt H0 b) (h : BoxAt H b) : BoxAt H b := h
local macro_rules | `(tactic| tm_at "rbx") => `(tactic| first | with_reducible assumption | ((refine' g_bx ?sg ?sh); (case sg => with_reducible assumption); (case sh => tm_at "rbx0")) | fail "no")
local macro_rules | `(tactic| tm_at "rbx0") => `(tactic| first | with_reducible assumption | ((refine' BoxAt.sm ?sa ?sb); (case sb => with_reducible assumption); (case sa => tm_at "rbx0")) | ((refine' BoxAt.kp ?sa ?sc ?sb); (case sb => with_reducible assumption); (case sc => tm_at "rne"); (case sa => tm_at "rbx0")) | fail "no")
local macro_rules | `(tactic| tm_at "rne") => `(tactic| first | ((refine' ne_newB ?sa ?sb); (case sa => with_reducible assumption); (case sb => tm_at "rbx")) | ((refine' ne_newB2 ?sa ?sb); (case sa => with_reducible assumption); (case sb => tm_at "rbx")) | fail "no")
theorem AllT.kpB {P : List V → Prop} {xs : List V} {H H' : Hp} {b : Addr} (h : AllT P xs H) (hb : BoxAt H b) (e : Kp b H H') : AllT P xs H' := by
  obtain ⟨x, s, hb, _⟩ := hb
  exact h.kp hb e
local macro_rules | `(tactic| tm_at "rall") => `(tactic| first | with_reducible assumption | exact AllT.nil | ((refine' AllT.add ?sa ?sb ?sp); (case sa => tm_at "rall"); (case sb => tm_at "rlk"); (case sp => with_reducible assumption)) | ((refine' AllT.add ?sa ?sb ?sp); (case sa => tm_at "rall"); (case sb => tm_at "rlk")) | ((refine' AllT.app ?sa ?sb); (case sa => tm_at "rall"); (case sb => tm_at "rall")) | ((refine' AllT.cut ?sa); (case sa => tm_at "rall")) | ((refine' AllT.sm ?sa ?sb); (case sb => with_reducible assumption); (case sa => tm_at "rall")) | ((refine' AllT.kpB ?sa ?sc ?sb); (case sb => with_reducible assumption); (case sc => tm_at "rbx"); (case sa => tm_at "rall")) | ((refine' AllT.kp ?sa ?sc ?sb); (case sb => with_reducible assumption); (case sc => tm_at "rlk"); (case sa => tm_at "rall")) | fail "no")
theorem SqF.kpB {K : PySem.W.Frag} {xs : List V} {a : Addr} {H H' : Hp} {b : Addr} (h : SqF K H a xs) (hb : BoxAt H b) (e : Kp b H H') : SqF K H' a xs := by
  obtain ⟨x, s, hb, _⟩ := hb
  exact h.kp hb e
local macro_rules | `(tactic| tm_at "rsf0") => `(tactic| ((refine' SqF.kpB ?sa ?sc ?sb); (case sb => with_reducible assumption); (case sc => tm_at "rbx"); (case sa => tm_at "rsf0")))
local macro_rules | `(tactic| tm_at "rz") => `(tactic| first | with_reducible assumption | tm_at "rfr" | tm_at "rkp" | tm_at "rsm" | tm_at "rbx" | tm_at "rsf" | tm_at "rlk" | tm_at "rsq" | tm_at "rne" | omega | fail "no")

/-! tuples stay as they are -/
def Tk (H H' : Hp) : Prop := ∀ p xs, H p = some (.tup xs) → H' p = some (.tup xs)
theorem Tk.refl (H : Hp) : Tk H H := fun _ _ h => h
theorem Tk.trans {H H1 H2 : Hp} (a : Tk H H1) (b : Tk H1 H2) : Tk H H2 := fun p xs h => b p xs (a p xs h)
theorem Tk.sm {H H' : Hp} (e : Sm H H') : Tk H H' := fun _ _ h => e _ _ h
theorem Tk.kp {H H' : Hp} {b : Addr} {ys : List V} (hb : H b = some (.lst ys)) (e : Kp b H H') : Tk H H' := fun p xs q => e _ _ (by
  intro z
  rw [z, hb] at q
  cases q) q
theorem Tk.kd {H H' : Hp} {b : Addr} {ys : List (Key × V)} (hb : H b = some (.dK ys)) (e : Kp b H H') : Tk H H' := fun p xs q => e _ _ (by
  intro z
  rw [z, hb] at q
  cases q) q
theorem Tk.ki {H H' : Hp} {b C dx : Addr} {ys : List (Str × V)} (hb : H b = some (.ins C dx ys)) (e : Kp b H H') : Tk H H' := fun p xs q => e _ _ (by
  intro z
  rw [z, hb] at q
  cases q) q
theorem Tk.kb {H H' : Hp} {b : Addr} (hb : BoxAt H b) (e : Kp b H H') : Tk H H' := by
  obtain ⟨x, s, hb, _⟩ := hb
  exact Tk.kp hb e
theorem Tk.kn {H H' : Hp} {b : Addr} (hb : H b = none) (e : Kp b H H') : Tk H H' := fun p xs q => e _ _ (ne_of_none q hb) q
local macro_rules | `(tactic| tm_at "rtk") => `(tactic| first | with_reducible assumption | exact Tk.refl _ | tm_at "rtk1" | ((refine' Tk.trans ?sa ?sb); (case sb => tm_at "rtk1"); (case sa => tm_at "rtk")) | fail "no")
local macro_rules | `(tactic| tm_at "rtk1") => `(tactic| first | exact Tk.sm (by with_reducible assumption) | ((refine' Tk.kb ?sa ?sb); (case sb => with_reducible assumption); (case sa => tm_at "rbx")) | ((refine' Tk.kp ?sa ?sb); (case sb => with_reducible assumption); (case sa => tm_at "rlk")) | ((refine' Tk.kd ?sa ?sb); (case sb => with_reducible assumption); (case sa => tm_at "rlk")) | ((refine' Tk.ki ?sa ?sb); (case sb => with_reducible assumption); (case sa => tm_at "rlk")) | ((refine' Tk.kn ?sa ?sb); (case sb => with_reducible assumption); (case sa => tm_at "rfr")) | with_reducible assumption | fail "no")
theorem g_tk {H H0 H1 : Hp} (_ : Tk H0 H1) (h : Tk H H1) : Tk H H1 := h
/-- a tuple, told ahead -/
theorem tk_lk {H H' : Hp} {p : Addr} {xs : List V} (h : H p = some (.tup xs)) (e : Tk H H') : H' p = some (.tup xs) := e _ _ h
local macro_rules | `(tactic| tm_at "rlk0") => `(tactic| first | ((refine' tk_lk ?sb ?sa); (case sa => with_reducible assumption); (case sb => tm_at "rlk0")) | fail "no")
/-! what stands in nested tuples -/
mutual
def TpD (H : Hp) : PyData → V → Prop
  | .tuple ds, v => ∃ p xs, v = .ref p ∧ H p = some (.tup xs) ∧ TpL H ds xs
  | .int i, v => v = .int i
  | .str s, v => v = .str s
  | .bool b, v => v = .bl b
  | .none, v => v = .non
  | .list _, _ => False
  | .dict _, _ => False
def TpL (H : Hp) : List PyData → List V → Prop
  | [], xs => xs = []
  | d :: ds, xs => ∃ v vs, xs = v :: vs ∧ TpD H d v ∧ TpL H ds vs
end
mutual
theorem TpD.tk {H H' : Hp} (e : Tk H H') : ∀ (d : PyData) (v : V), TpD H d v → TpD H' d v
  | .tuple ds, v, h => by
    unfold TpD at h ⊢
    obtain ⟨p, xs, rfl, q, r⟩ := h
    exact ⟨p, xs, rfl, e _ _ q, TpL.tk e ds xs r⟩
  | .int i, v, h => by unfold TpD at h ⊢; exact h
  | .str s, v, h => by unfold TpD at h ⊢; exact h
  | .bool b, v, h => by unfold TpD at h ⊢; exact h
  | .none, v, h => by unfold TpD at h ⊢; exact h
  | .list _, v, h => by unfold TpD at h; exact h.elim
  | .dict _, v, h => by unfold TpD at h; exact h.elim
theorem TpL.tk {H H' : Hp} (e : Tk H H') : ∀ (ds : List PyData) (xs : List V), TpL H ds xs → TpL H' ds xs
  | [], xs, h => by unfold TpL at h ⊢; exact h
  | d :: ds, xs, h => by
    unfold TpL at h ⊢
    obtain ⟨v, vs, rfl, q, r⟩ := h
    exact ⟨v, vs, rfl, TpD.tk e d v q, TpL.tk e ds vs r⟩
end
mutual
theorem TpD.dp {K : PySem.W.Frag} {H : Hp} : ∀ (d : PyData) (v : V), TpD H d v → Dp K H v d
  | .tuple ds, v, h => by
    unfold TpD at h
    obtain ⟨p, xs, rfl, q, r⟩ := h
    exact .tup (st_of q) (TpL.dp ds xs r)
  | .int i, v, h => by unfold TpD at h; subst h; exact .int _
  | .str s, v, h => by unfold TpD at h; subst h; exact .str _
  | .bool b, v, h => by unfold TpD at h; subst h; exact .bl _
  | .none, v, h => by unfold TpD at h; subst h; exact .non
  | .list _, v, h => by unfold TpD at h; exact h.elim
  | .dict _, v, h => by unfold TpD at h; exact h.elim
theorem TpL.dp {K : PySem.W.Frag} {H : Hp} : ∀ (ds : List PyData) (xs : List V), TpL H ds xs → DpAll K H xs ds
  | [], xs, h => by unfold TpL at h; subst h; exact .nil
  | d :: ds, xs, h => by
    unfold TpL at h
    obtain ⟨v, vs, rfl, q, r⟩ := h
    exact .cons (TpD.dp d v q) (TpL.dp ds vs r)
end
theorem tpd_t {H : Hp} {p : Addr} {xs : List V} {ds : List PyData} (h : H p = some (.tup xs)) (k : TpL H ds xs) : TpD H (.tuple ds) (.ref p) := by
  unfold TpD
  exact ⟨p, xs, rfl, h, k⟩
theorem tpd_i {H : Hp} {i : Int} : TpD H (.int i) (.int i) := by
  unfold TpD
  rfl
theorem tpd_s {H : Hp} {s : Str} : TpD H (.str s) (.str s) := by
  unfold TpD
  rfl
theorem tpl_nil {H : Hp} : TpL H [] [] := by
  unfold TpL
  rfl
theorem tpl_cons {H : Hp} {d : PyData} {ds : List PyData} {v : V} {vs : List V} (h : TpD H d v) (k : TpL H ds vs) : TpL H (d :: ds) (v :: vs) := by
  unfold TpL
  exact ⟨v, vs, rfl, h, k⟩
def nV (l : List Nat) : List V := l.map fun t => V.int (t : Nat)
def nD (l : List Nat) : List PyData := l.map fun t => PyData.int (t : Nat)
theorem tpl_nat {H : Hp} : ∀ l : List Nat, TpL H (nD l) (nV l)
  | [] => tpl_nil
  | x :: l => tpl_cons tpd_i (tpl_nat l)
theorem nV_snoc (l : List Nat) (x : Nat) : nV (l ++ [x]) = nV l ++ [V.int (x : Nat)] := List.map_append
theorem nV_len (l : List Nat) : (nV l).length = l.length := List.length_map _
theorem nV_app (l m : List Nat) : nV (l ++ m) = nV l ++ nV m := List.map_append
theorem nV_get {l : List Nat} {j x : Nat} (h : l[j]? = some x) : (nV l)[j]? = some (.int (x : Nat)) := by
  unfold nV
  rw [List.getElem?_map, h]
  rfl
theorem nV_take (l : List Nat) (n : Nat) : (nV l).take n = nV (l.take n) := by
  unfold nV
  rw [List.map_take]
theorem nV_drop (l : List Nat) (n : Nat) : (nV l).drop n = nV (l.drop n) := by
  unfold nV
  rw [List.map_drop]
theorem paired_last {α β : Type} {R : α → β → Prop} : ∀ {l : List α} {m : List β} {y : β}, Paired R l (m ++ [y]) → ∃ l' x, l = l' ++ [x] ∧ Paired R l' m ∧ R x y
  | _, [], _, .cons h .nil => ⟨[], _, rfl, .nil, h⟩
  | _, _ :: m, _, .cons h r => by
    obtain ⟨l', x, rfl, r1, r2⟩ := paired_last r
    exact ⟨_ :: l', x, rfl, .cons h r1, r2⟩
theorem paired_app {α β : Type} {R : α → β → Prop} : ∀ {l : List α} {m : List β} {l' : List α} {m' : List β}, Paired R l m → Paired R l' m' → Paired R (l ++ l') (m ++ m')
  | _, _, _, _, .nil, h => h
  | _, _, _, _, .cons a b, h => .cons a (paired_app b h)
theorem paired_mono {α β : Type} {F G : α → β → Prop} (h : ∀ p q, F p q → G p q) : ∀ {l : List α} {k : List β}, Paired F l k → Paired G l k
  | _, _, .nil => .nil
  | _, _, .cons a b => .cons (h _ _ a) (paired_mono h b)
theorem paired_len {α β : Type} {R : α → β → Prop} : ∀ {l : List α} {m : List β}, Paired R l m → l.length = m.length
  | _, _, .nil => rfl
  | _, _, .cons _ b => by rw [List.length_cons, List.length_cons, paired_len b]
theorem paired_get {α β : Type} {R : α → β → Prop} : ∀ {l : List α} {m : List β} {i : Nat} {x : α}, Paired R l m → l[i]? = some x → ∃ y, m[i]? = some y ∧ R x y
  | _, _, 0, _, .cons a b, h => ⟨_, rfl, by cases h; exact a⟩
  | _, _, i + 1, _, .cons a b, h => paired_get (i := i) b h
  | _, _, _, _, .nil, h => by cases h
theorem paired_getR {α β : Type} {R : α → β → Prop} : ∀ {l : List α} {m : List β} {i : Nat} {y : β}, Paired R l m → m[i]? = some y → ∃ x, l[i]? = some x ∧ R x y
  | _, _, 0, _, .cons a b, h => ⟨_, rfl, by cases h; exact a⟩
  | _, _, i + 1, _, .cons a b, h => paired_getR (i := i) b h
  | _, _, _, _, .nil, h => by cases h
theorem paired_rep {α β : Type} {R : α → β → Prop} {x : α} {y : β} (h : R x y) : ∀ n : Nat, Paired R (List.replicate n x) (List.replicate n y)
  | 0 => .nil
  | n + 1 => .cons h (paired_rep h n)
theorem w_rep1V {H : Hp} {Q : VK} {l : Addr} {v : V} {j : Int} (h : H l = some (.lst [v])) (h0 : 0 ≤ j) (h1 : j ≤ 1000) (k : ∀ p H', H p = none → Sm H H' → H' p = some (.lst (List.replicate j.toNat v)) → Q (.ref p) H') : gMul (.ref l) (.int j) H Q := by
  refine .inr (.inr ⟨l, j, _, rfl, rfl, h, by omega, by omega, sz_of ?_, fun p hp => k p _ hp (sm_new hp) ?_⟩)
  · show 1 * j.toNat ≤ _
    omega
  · rw [upd_same, List.flatten_replicate_singleton]
/-- one of a list -/
theorem w_ixP {K : PySem.W.Frag} {H : Hp} {Q : VK} {p : Addr} {xs : List V} {i : Int} (P : V → Prop) (h : SqL K H p xs ∨ SqT K H p xs) (h0 : 0 ≤ i) (h1 : i < (xs.length : Int)) (hx : ∀ x ∈ xs, P x) (k : ∀ x, P x → Q x H) : rIx K (.ref p) (.int i) H Q := by
  obtain ⟨j, rfl⟩ := Int.eq_ofNat_of_zero_le h0
  have hj : j < xs.length := by omega
  have e := List.getElem?_eq_getElem hj
  rcases h with h | h
  · exact w_ixL' h (atI_nat e) (k _ (hx _ (List.getElem_mem hj)))
  · exact w_ixT h (atI_nat e) (k _ (hx _ (List.getElem_mem hj)))
theorem w_ixN {K : PySem.W.Frag} {H : Hp} {Q : VK} {p : Addr} {xs : List Nat} {i : Int} (h : SqL K H p (nV xs) ∨ SqT K H p (nV xs)) (h0 : 0 ≤ i) (h1 : i < (xs.length : Int)) (k : ∀ x ∈ xs, Q (.int (x : Nat)) H) : rIx K (.ref p) (.int i) H Q :=
  w_ixP (fun v => ∃ x ∈ xs, v = .int (x : Nat)) h h0 (by rw [nV_len]; exact h1) (fun v hv => by
    obtain ⟨x, hx, e⟩ := List.mem_map.mp hv
    exact ⟨x, hx, e.symm⟩) (fun v hv => by
    obtain ⟨x, hx, rfl⟩ := hv
    exact k x hx)
theorem all2 {P : V → Prop} {x y : V} (hx : P x) (hy : P y) : ∀ z ∈ [x, y], P z := fun z hz => by
  rcases List.mem_cons.mp hz with rfl | hz
  · exact hx
  · rw [List.mem_singleton.mp hz]
    exact hy
theorem all3 {P : V → Prop} {x y u : V} (hx : P x) (hy : P y) (hu : P u) : ∀ z ∈ [x, y, u], P z := fun z hz => by
  rcases List.mem_cons.mp hz with rfl | hz
  · exact hx
  · exact all2 hy hu z hz
/-! a tuple that stands, or one of the module's own -/
def TpK (K : PySem.W.Frag) (H : Hp) (p : Addr) (xs : List V) : Prop := H p = some (.tup xs) ∨ ∀ H' : Hp, SqT K H' p xs
theorem TpK.imp {K : PySem.W.Frag} {H H' : Hp} {p : Addr} {xs : List V} (h : TpK K H p xs) (e : Tk H H') : TpK K H' p xs := h.elim (fun h => .inl (e _ _ h)) .inr
theorem TpK.sq {K : PySem.W.Frag} {H : Hp} {p : Addr} {xs : List V} (h : TpK K H p xs) : SqT K H p xs := h.elim st_of fun h => h H
theorem TpK.of {K : PySem.W.Frag} {H : Hp} {p : Addr} {xs : List V} (h : H p = some (.tup xs)) : TpK K H p xs := .inl h
local macro_rules | `(tactic| tm_at "rtp") => `(tactic| first | with_reducible assumption | exact TpK.of (by with_reducible assumption) | ((refine' TpK.imp ?sa ?sb); (case sa => with_reducible assumption); (case sb => tm_at "rtk")) | fail "no")
local macro_rules | `(tactic| tm_at "rst") => `(tactic| first | with_reducible assumption | ((refine' st_of ?sz); (case sz => tm_at "rlk")) | ((refine' TpK.sq ?sz); (case sz => tm_at "rtp")) | fail "no")

/-! zip(t, u, strict=True) over two tuples of one length -/
theorem typeCall_zipS (a b c : Value) : checkTypeCall "zip" ⟨[a, b], [(Str.ofString "strict", c)]⟩ = pure () := by kernel_rfl
theorem newCall_zipS (a b c : Value) : checkBuiltinCall "zip.__new__" ⟨[.type "zip", a, b], [(Str.ofString "strict", c)]⟩ = pure () := by kernel_rfl
theorem argsInit_zipS (obj a b c : Value) : argsOk "object.__init__" ⟨[obj, a, b], [(Str.ofString "strict", c)]⟩ := by unfold argsOk; kernel_rfl
abbrev ZiS (h : Heap) (z TI TO : Addr) (f0 : Value) : Prop := h.get? z = some { cls := .type "zip", dict := none, data := .fields #[f0, .bool false, .bool true, .ref TI, .ref TO], slots := #[] }
section
variable {prog : Program} {w : World} {A : Around} {E : Value → Shared → Prop} {s : Shared}
theorem orEnd_item {it l : Addr} {i : Nat} {items : Array Value} {x : Value} {Q : Option Value → Shared → Prop} (hit : s.heap.IsTupleIter it l i) (hl : s.heap.IsTuple l items) (hx : items[i]? = some x)
    (hQ : ∀ h', h'.IsTupleIter it l (i + 1) → Heap.SameBut it s.heap h' → Q (some x) { s with heap := h' }) : wpAny (model prog w) A (Builtin.SmallTypes.nextOrEnd (.ref it)) Q E s := by
  unfold Builtin.SmallTypes.nextOrEnd
  exact PySem.wpAny_bind (wpAny_attempt (_root_.RZ.nextOf_tuple_item hit hl hx fun h' a b => wpAny_pure (hQ h' a b)))
theorem orEnd_end {it l : Addr} {i : Nat} {items : Array Value} {Q : Option Value → Shared → Prop} (hh : A.handled = none) (hit : s.heap.IsTupleIter it l i) (hl : s.heap.IsTuple l items) (hx : items[i]? = none)
    (hQ : ∀ h', Heap.ExtBut it s.heap h' → Q none { s with heap := h' }) : wpAny (model prog w) A (Builtin.SmallTypes.nextOrEnd (.ref it)) Q E s := by
  unfold Builtin.SmallTypes.nextOrEnd
  refine PySem.wpAny_bind (wpAny_attempt (_root_.RZ.nextOf_tuple_end hh hit hl hx fun h' e hk he => ?_))
  obtain ⟨o, ho, hc⟩ := he
  refine PySem.wpAny_bind (wpAny_isInstance (T := "StopIteration") (b := true) ⟨o, ho, hc⟩ isSubtype_stop ?_)
  rw [if_pos rfl]
  exact wpAny_pure (hQ h' hk)
end
section
variable {prog : Program} {w : World} {A : Around} {E : Value → Shared → Prop} {s : Shared}
theorem stop_wp {α : Type} {Q : α → Shared → Prop} (hh : A.handled = none)
    (hE : ∀ h' e, (∀ c o, s.heap.get? c = some o → h'.get? c = some o) → (∃ o, h'.get? e = some o ∧ o.cls = .type "StopIteration") → E (.ref e) { s with heap := h' }) :
    wpAny (model prog w) A (Builtin.SmallTypes.stopIteration : Sem α) Q E s := by
  unfold Builtin.SmallTypes.stopIteration
  refine PySem.wpAny_bind ?_
  simp only [newTuple, newExc]
  refine PySem.wpAny_bind (wpAny_newObj_type ?_ (by size_fits))
  refine PySem.wpAny_bind (m := firstArgMember _ _) (wpAny_of_eq (a := Value.none) (by first | rfl | (simp only [firstArgMember]; rfl)) ?_)
  refine PySem.wpAny_newObj_type ?_ (by size_fits)
  simp only [raiseNew]
  refine PySem.wpAny_bind (wpAny_handled ?_)
  rw [hh]
  refine PySem.wpAny_bind (wpAny_pure (wpAny_throw ?_))
  exact hE _ _ (fun c o q => Heap.get?_push_of_some _ (Heap.get?_push_of_some _ q)) ⟨_, Heap.get?_push_size _ rfl, rfl⟩
theorem zipS_item {z TI TO i1 i2 l1 l2 : Addr} {k1 k2 : Nat} {xs ys : Array Value} {x y a b : Value} {Q : Value → Shared → Prop} (D : ZipApart z TI TO i1 i2 l1 l2)
    (hz : ZiS s.heap z TI TO .none) (hTI : IsPair s.heap TI (.ref i1) (.ref i2)) (hTO : IsPair s.heap TO a b) (h1 : s.heap.IsTupleIter i1 l1 k1) (h2 : s.heap.IsTupleIter i2 l2 k2) (hl1 : s.heap.IsTuple l1 xs) (hl2 : s.heap.IsTuple l2 ys) (hx : xs[k1]? = some x) (hy : ys[k2]? = some y)
    (hQ : ∀ h', ZiS h' z TI TO (rawInt s.heap.objs.size) → IsPair h' TO x y → h'.IsTupleIter i1 l1 (k1 + 1) → h'.IsTupleIter i2 l2 (k2 + 1) → IsPair h' s.heap.objs.size x y → h'.objs.size = s.heap.objs.size + 1 → (∀ c o, c ≠ z → c ≠ TO → c ≠ i1 → c ≠ i2 → s.heap.get? c = some o → h'.get? c = some o) → Q (.ref s.heap.objs.size) { s with heap := h' }) :
    wpAny (model prog w) A (Builtin.«zip.__next__» ⟨[.ref z], []⟩) (fun fin s' => ∃ v, fin = .done (.ret v) ∧ Q v s') E s := by
  show wpAny _ _ (field (Value.ref z) 2 >>= _) _ _ _
  refine PySem.wpAny_bind (wpAny_field hz rfl (x := .bool true) rfl ?_)
  show wpAny _ _ (field (Value.ref z) 3 >>= _) _ _ _
  refine PySem.wpAny_bind (wpAny_field hz rfl (x := .ref TI) rfl ?_)
  refine PySem.wpAny_bind (wpAny_seqItems hTI rfl ?_)
  show wpAny _ _ (Builtin.SmallTypes.ownedTupleIsFree (Value.ref z) >>= _) _ _ _
  refine PySem.wpAny_bind ?_
  unfold Builtin.SmallTypes.ownedTupleIsFree
  refine PySem.wpAny_bind (wpAny_field hz rfl (x := .none) rfl (wpAny_pure ?_))
  simp only [if_true]
  refine PySem.wpAny_bind (wpAny_rule ?_)
  refine PySem.wpAny_bind (wpAny_field hz rfl (x := .ref TO) rfl ?_)
  refine PySem.wpAny_bind (wpAny_setField_rec hz (by simp) fun g1 z1 s1 => ?_)
  replace z1 : ZiS g1 z TI TO .ellipsis := z1
  refine PySem.wpAny_bind ?_
  simp only [List.zipIdx_nil, List.zipIdx_cons, List.forIn_nil, List.forIn_cons]
  refine PySem.wpAny_bind (PySem.wpAny_bind (wpAny_onRaise ?_))
  show wpAny _ _ (Builtin.SmallTypes.nextOrEnd (.ref i1)) _ _ _
  refine orEnd_item (h1.extBut s1.extBut D.i1z) (hl1.extBut s1.extBut D.l1z) hx fun g2 j1 s2 => ?_
  have t2 : IsPair g2 TO a b := s2.extBut _ _ D.TOi1 (s1.extBut _ _ D.TOz hTO)
  refine PySem.wpAny_bind (wpAny_seqItems t2 rfl ?_)
  refine PySem.wpAny_bind (wpAny_updateSeq_pair t2 fun g3 t3 s3 => ?_)
  replace t3 : IsPair g3 TO x b := t3
  refine PySem.wpAny_bind (wpAny_letGo (wpAny_pure ?_))
  refine PySem.wpAny_bind (PySem.wpAny_bind (wpAny_onRaise ?_))
  show wpAny _ _ (Builtin.SmallTypes.nextOrEnd (.ref i2)) _ _ _
  refine orEnd_item (((h2.extBut s1.extBut D.i2z).extBut s2.extBut D.i12.symm).extBut s3.extBut D.TOi2.symm) (((hl2.extBut s1.extBut D.l2z).extBut s2.extBut D.l2i1).extBut s3.extBut D.l2TO) hy fun g4 j2 s4 => ?_
  have t4 : IsPair g4 TO x b := s4.extBut _ _ D.TOi2 t3
  refine PySem.wpAny_bind (wpAny_seqItems t4 rfl ?_)
  refine PySem.wpAny_bind (wpAny_updateSeq_pair t4 fun g5 t5 s5 => ?_)
  replace t5 : IsPair g5 TO x y := t5
  refine PySem.wpAny_bind (wpAny_letGo (wpAny_pure (wpAny_pure ?_)))
  refine PySem.wpAny_bind (wpAny_seqItems t5 rfl ?_)
  refine PySem.wpAny_bind (wpAny_newTuple ?_)
  have hsz : g5.objs.size = s.heap.objs.size := by rw [s5.1, s4.1, s3.1, s2.1, s1.1]
  have z5 : ZiS g5 z TI TO .ellipsis := s5.extBut _ _ D.TOz.symm (s4.extBut _ _ D.i2z.symm (s3.extBut _ _ D.TOz.symm (s2.extBut _ _ D.i1z.symm z1)))
  have k5 : ∀ c o, c ≠ z → c ≠ TO → c ≠ i1 → c ≠ i2 → s.heap.get? c = some o → g5.get? c = some o := fun c o c1 c2 c3 c4 e => s5.extBut _ _ c2 (s4.extBut _ _ c4 (s3.extBut _ _ c2 (s2.extBut _ _ c3 (s1.extBut _ _ c1 e))))
  have m1 : g5.IsTupleIter i1 l1 (k1 + 1) := ((j1.extBut s3.extBut D.TOi1.symm).extBut s4.extBut D.i12).extBut s5.extBut D.TOi1.symm
  have m2 : g5.IsTupleIter i2 l2 (k2 + 1) := j2.extBut s5.extBut D.TOi2.symm
  have hzlt : z < g5.objs.size := Heap.lt_size z5
  show wpAny _ _ (Builtin.SmallTypes.ownedTupleHandOut (Value.ref z) (.ref g5.objs.size) >>= _) _ _ _
  refine PySem.wpAny_bind ?_
  unfold Builtin.SmallTypes.ownedTupleHandOut
  have z6 : ZiS (g5.push { cls := .type "tuple", data := .seq #[x, y] }) z TI TO .ellipsis := Heap.get?_push_of_some _ z5
  refine PySem.wpAny_bind (wpAny_setField_rec z6 (by simp) fun g7 z7 s7 => ?_)
  replace z7 : ZiS g7 z TI TO (rawInt g5.objs.size) := z7
  refine PySem.wpAny_setField_rec z7 (by simp) fun g8 z8 s8 => ?_
  replace z8 : ZiS g8 z TI TO (rawInt g5.objs.size) := z8
  have up : ∀ c o, c ≠ z → g5.get? c = some o → g8.get? c = some o := fun c o c1 e => s8.extBut _ _ c1 (s7.extBut _ _ c1 (Heap.get?_push_of_some _ e))
  have t8 : IsPair g8 g5.objs.size x y := s8.extBut _ _ (Nat.ne_of_gt hzlt) (s7.extBut _ _ (Nat.ne_of_gt hzlt) (Heap.get?_push_size _ rfl))
  have n8 : g8.objs.size = g5.objs.size + 1 := by rw [s8.1, s7.1, Heap.size_push]
  rw [hsz] at z8 t8 n8
  refine PySem.wpAny_pure ⟨_, rfl, ?_⟩
  show Q (.ref g5.objs.size) _
  rw [hsz]
  exact hQ g8 z8 (up _ _ D.TOz t5) (m1.at fun o e => up _ o D.i1z e) (m2.at fun o e => up _ o D.i2z e) t8 n8 fun c o c1 c2 c3 c4 e => up c o c1 (k5 c o c1 c2 c3 c4 e)
theorem zipS_end {z TI TO i1 i2 l1 l2 : Addr} {k1 k2 : Nat} {xs ys : Array Value} {a b : Value} {Q : Fin → Shared → Prop} (hh : A.handled = none) (D : ZipApart z TI TO i1 i2 l1 l2)
    (hz : ZiS s.heap z TI TO .none) (hTI : IsPair s.heap TI (.ref i1) (.ref i2)) (hTO : IsPair s.heap TO a b) (h1 : s.heap.IsTupleIter i1 l1 k1) (h2 : s.heap.IsTupleIter i2 l2 k2) (hl1 : s.heap.IsTuple l1 xs) (hl2 : s.heap.IsTuple l2 ys) (hx : xs[k1]? = none) (hy : ys[k2]? = none)
    (hE : ∀ h' e, (∀ c o, c ≠ z → c ≠ TO → c ≠ i1 → c ≠ i2 → s.heap.get? c = some o → h'.get? c = some o) → (∃ o, h'.get? e = some o ∧ o.cls = .type "StopIteration") → E (.ref e) { s with heap := h' }) :
    wpAny (model prog w) A (Builtin.«zip.__next__» ⟨[.ref z], []⟩) Q E s := by
  show wpAny _ _ (field (Value.ref z) 2 >>= _) _ _ _
  refine PySem.wpAny_bind (wpAny_field hz rfl (x := .bool true) rfl ?_)
  show wpAny _ _ (field (Value.ref z) 3 >>= _) _ _ _
  refine PySem.wpAny_bind (wpAny_field hz rfl (x := .ref TI) rfl ?_)
  refine PySem.wpAny_bind (wpAny_seqItems hTI rfl ?_)
  show wpAny _ _ (Builtin.SmallTypes.ownedTupleIsFree (Value.ref z) >>= _) _ _ _
  refine PySem.wpAny_bind ?_
  unfold Builtin.SmallTypes.ownedTupleIsFree
  refine PySem.wpAny_bind (wpAny_field hz rfl (x := .none) rfl (wpAny_pure ?_))
  simp only [if_true]
  refine PySem.wpAny_bind (wpAny_rule ?_)
  refine PySem.wpAny_bind (wpAny_field hz rfl (x := .ref TO) rfl ?_)
  refine PySem.wpAny_bind (wpAny_setField_rec hz (by simp) fun g1 z1 s1 => ?_)
  replace z1 : ZiS g1 z TI TO .ellipsis := z1
  refine PySem.wpAny_bind ?_
  simp only [List.zipIdx_nil, List.zipIdx_cons, List.forIn_nil, List.forIn_cons]
  refine PySem.wpAny_bind (PySem.wpAny_bind (wpAny_onRaise ?_))
  show wpAny _ _ (Builtin.SmallTypes.nextOrEnd (.ref i1)) _ _ _
  refine orEnd_end hh (h1.extBut s1.extBut D.i1z) (hl1.extBut s1.extBut D.l1z) hx fun g2 s2 => ?_
  have z2 : ZiS g2 z TI TO .ellipsis := s2 _ _ D.i1z.symm z1
  refine PySem.wpAny_bind (wpAny_setField_rec z2 (by simp) fun g3 z3 s3 => ?_)
  refine PySem.wpAny_bind ?_
  refine PySem.wpAny_bind ?_
  simp only [List.drop_succ_cons, List.drop_zero, List.zipIdx_nil, List.zipIdx_cons, List.forIn_nil, List.forIn_cons]
  refine PySem.wpAny_bind (PySem.wpAny_bind ?_)
  have hs12 : ∀ c o, c ≠ z → c ≠ i1 → s.heap.get? c = some o → g3.get? c = some o := fun c o c1 c3 q => s3.extBut _ _ c1 (s2 _ _ c3 (s1.extBut _ _ c1 q))
  have n2 : g3.IsTupleIter i2 l2 k2 := h2.at fun o q => hs12 _ o D.i2z D.i12.symm q
  have q2 : g3.IsTuple l2 ys := ((hl2.extBut s1.extBut D.l2z).extBut s2 D.l2i1).extBut s3.extBut D.l2z
  refine orEnd_end hh n2 q2 hy fun g4 s4 => ?_
  rw [if_neg (by decide)]
  refine wpAny_pure (wpAny_pure (PySem.wpAny_bind (wpAny_rule ?_)))
  refine stop_wp hh fun g5 e k5 he => ?_
  exact hE g5 e (fun c o c1 _ c3 c4 q => k5 c o (s4 _ _ c4 (hs12 c o c1 c3 q))) he
theorem pyNext_zipS_item {z TI TO i1 i2 l1 l2 : Addr} {k1 k2 : Nat} {xs ys : Array Value} {x y a b : Value} {Q : Option Value → Shared → Prop} (D : ZipApart z TI TO i1 i2 l1 l2)
    (hz : ZiS s.heap z TI TO .none) (hTI : IsPair s.heap TI (.ref i1) (.ref i2)) (hTO : IsPair s.heap TO a b) (h1 : s.heap.IsTupleIter i1 l1 k1) (h2 : s.heap.IsTupleIter i2 l2 k2) (hl1 : s.heap.IsTuple l1 xs) (hl2 : s.heap.IsTuple l2 ys) (hx : xs[k1]? = some x) (hy : ys[k2]? = some y)
    (hQ : ∀ h', ZiS h' z TI TO (rawInt s.heap.objs.size) → IsPair h' TO x y → h'.IsTupleIter i1 l1 (k1 + 1) → h'.IsTupleIter i2 l2 (k2 + 1) → IsPair h' s.heap.objs.size x y → h'.objs.size = s.heap.objs.size + 1 → (∀ c o, c ≠ z → c ≠ TO → c ≠ i1 → c ≠ i2 → s.heap.get? c = some o → h'.get? c = some o) → Q (some (.ref s.heap.objs.size)) { s with heap := h' }) :
    wpAny (model prog w) A (pyNext (.ref z)) Q E s := by
  have hT : s.TypeIs (Value.ref z) "zip" := ⟨_, hz, rfl⟩
  unfold pyNext
  exact PySem.wpAny_bind (wpAny_attempt (wpAny_callSpecial?_slot (name := Str.ofString "__next__") hT F.slot_zip_next (wpAny_call_entry F.slot_zip_next hT F.entry_zip_next (zipS_item D hz hTI hTO h1 h2 hl1 hl2 hx hy fun h' a1 a2 a3 a4 a5 a6 a7 => wpAny_pure (hQ h' a1 a2 a3 a4 a5 a6 a7)) (F.args_zip_next_1 _))))
theorem pyNext_zipS_end {z TI TO i1 i2 l1 l2 : Addr} {k1 k2 : Nat} {xs ys : Array Value} {a b : Value} {Q : Option Value → Shared → Prop} (hh : A.handled = none) (D : ZipApart z TI TO i1 i2 l1 l2)
    (hz : ZiS s.heap z TI TO .none) (hTI : IsPair s.heap TI (.ref i1) (.ref i2)) (hTO : IsPair s.heap TO a b) (h1 : s.heap.IsTupleIter i1 l1 k1) (h2 : s.heap.IsTupleIter i2 l2 k2) (hl1 : s.heap.IsTuple l1 xs) (hl2 : s.heap.IsTuple l2 ys) (hx : xs[k1]? = none) (hy : ys[k2]? = none)
    (hQ : ∀ h', (∀ c o, c ≠ z → c ≠ TO → c ≠ i1 → c ≠ i2 → s.heap.get? c = some o → h'.get? c = some o) → Q none { s with heap := h' }) : wpAny (model prog w) A (pyNext (.ref z)) Q E s := by
  have hT : s.TypeIs (Value.ref z) "zip" := ⟨_, hz, rfl⟩
  unfold pyNext
  refine PySem.wpAny_bind (wpAny_attempt (wpAny_callSpecial?_slot (name := Str.ofString "__next__") hT F.slot_zip_next (wpAny_call_entry F.slot_zip_next hT F.entry_zip_next (zipS_end hh D hz hTI hTO h1 h2 hl1 hl2 hx hy fun h' e hk he => ?_) (F.args_zip_next_1 _))))
  obtain ⟨o, ho, hc⟩ := he
  refine PySem.wpAny_bind (wpAny_isInstance (T := "StopIteration") (b := true) ⟨o, ho, hc⟩ isSubtype_stop ?_)
  exact wpAny_pure (hQ _ hk)
theorem letGo_zipS {elts : List Expr} {x1} {pos : Pos} {z TI TO T : Addr} {Q : Unit → Shared → Prop} (hz : ZiS s.heap z TI TO (rawInt T)) (hQ : ∀ h', ZiS h' z TI TO .none → Heap.SameBut z s.heap h' → Q () { s with heap := h' }) :
    wpAny (model prog w) A (letOwnedTupleGo (.Tuple elts x1 pos) (.ref z) (.ref T)) Q E s := by
  unfold letOwnedTupleGo
  refine PySem.wpAny_bind (wpAny_load hz ?_)
  show wpAny _ _ (if (["enumerate", "zip", "dict_itemiterator", "dict_reverseitemiterator", "odict_iterator", "itertools.zip_longest", "itertools.pairwise"].contains "zip" && (#[rawInt T, .bool false, .bool true, .ref TI, .ref TO] : Array Value)[0]? == some (rawInt T)) = true then _ else _) Q E s
  rw [if_pos (by simp)]
  refine PySem.wpAny_bind (wpAny_rule ?_)
  show wpAny _ _ (setField (Value.ref z) 0 .none) Q E s
  exact wpAny_setField_rec hz (by simp) fun h' hz' hs' => hQ h' hz' hs'
theorem pyIter_zipS {z TI TO : Addr} {f0 : Value} {Q : Value → Shared → Prop} (hz : ZiS s.heap z TI TO f0) (h : Q (.ref z) s) : wpAny (model prog w) A (pyIter (.ref z)) Q E s := by
  have hT : s.TypeIs (Value.ref z) "zip" := ⟨_, hz, rfl⟩
  refine wpAny_pyIter_slot hT F.slot_zip_iter (wpAny_call_entry F.slot_zip_iter hT F.entry_zip_iter ?_ (F.args_zip_iter_1 _))
  show wpAny _ _ (ret (Value.ref z)) _ _ s
  exact wpAny_pure ⟨_, rfl, "zip", _, hT, F.slot_zip_next.lookup, h⟩
end
abbrev zS1 (h : Heap) (l1 : Addr) : Heap := h.push { cls := .type "tuple_iterator", data := .fields #[.ref l1, .int 0 0] }
abbrev zS2 (h : Heap) (l1 l2 : Addr) : Heap := (zS1 h l1).push { cls := .type "tuple_iterator", data := .fields #[.ref l2, .int 0 0] }
abbrev zS3 (h : Heap) (l1 l2 : Addr) : Heap := (zS2 h l1 l2).push { cls := .type "tuple", data := .seq #[.ref h.objs.size, .ref (zS1 h l1).objs.size] }
abbrev zS4 (h : Heap) (l1 l2 : Addr) : Heap := (zS3 h l1 l2).push { cls := .type "tuple", data := .seq #[.none, .none] }
abbrev zS5 (h : Heap) (l1 l2 : Addr) : Heap := (zS4 h l1 l2).push { cls := .type "zip", data := .fields #[.none, .bool false, .bool true, .ref (zS2 h l1 l2).objs.size, .ref (zS3 h l1 l2).objs.size] }
theorem meets_zipS_new (l1 l2 : Addr) (xs ys : Array Value) : Meets (Builtin.«zip.__new__» ⟨[.type "zip", .ref l1, .ref l2], [(Str.ofString "strict", .bool true)]⟩) (fun _ R s => s.heap.IsTuple l1 xs ∧ s.heap.IsTuple l2 ys ∧ R (.ok (.ret (.ref (zS4 s.heap l1 l2).objs.size))) { s with heap := zS5 s.heap l1 l2 }) :=
  .of_wp fun prog w A R s h => by
    obtain ⟨hp, g, d, tk, os⟩ := s
    obtain ⟨hl1, hl2, h⟩ := h
    have hsub := sub_zip
    have e1 : (Str.ofString "strict" != ("strict" : Str)) = false := by decide +kernel
    have L1 : Heap.IsTuple (Shared.heap ⟨hp, g, d, tk, os⟩) l1 xs := hl1
    have L2' : Heap.IsTuple (Shared.heap ⟨hp.push { cls := .type "tuple_iterator", data := .fields #[.ref l1, .int 0 0] }, g, d, tk, os⟩) l2 ys := Heap.IsTuple.push hl2 _
    wp_walk using wpAny_pyIter_tuple L1, wpAny_pyIter_tuple L2'
    exact ⟨_, rfl, h⟩
section
variable {prog : Program} {w : World} {A : Around} {E : Value → Shared → Prop} {s : Shared}
theorem callWith_tyK {M : Model} {A : Around} {E : Value → Shared → Prop} {s : Shared} {env : Env} {pos : Pos} {T : String} {e : Expr} {rest : List Expr} {kws : List Keyword} {Q : Value → Shared → Prop}
    (h : wpAny M A (spliced (backTo pos (starEach (e :: rest) env))) (fun vs s₁ => wpAny M A (evalAll ((backToKw pos (keywordEach kws env)).map (·.2))) (fun kvs s₂ => wpAny M A (call (.type T) vs (((backToKw pos (keywordEach kws env)).filterMap (·.1)).zip kvs)) Q E s₂) E s₁) E s)
    (he : backTo pos (starEach (e :: rest) env) = (false, eval e env) :: backTo pos (starEach rest env)) (hplain : (backTo pos (starEach (e :: rest) env)).any (·.1) = false)
    (hall : (backToKw pos (keywordEach kws env)).all (·.1.isSome) = true) (hkw : (backToKw pos (keywordEach kws env)).any (·.1.isNone) = false) :
    wpAny M A (callWith pos (.type T) [] (backTo pos (starEach (e :: rest) env)) (backToKw pos (keywordEach kws env))) Q E s := by
  have h' : wpAny M A (evalArgs (.type T) true (backTo pos (starEach (e :: rest) env)) (backToKw pos (keywordEach kws env))) (fun a s₁ => wpAny M A (call (.type T) ([] ++ a.pos) a.kw) Q E s₁) E s := by
    rw [he] at h ⊢
    exact PyProof.Rows.evalArgs_kwB hall h
  unfold callWith
  refine PySem.wpAny_bind (wpAny_holding (wpAny_mono h' (fun a s1 q1 => PySem.wpAny_bind (wpAny_standAt ?_)) fun _ _ x => x))
  simp only [hplain, hkw, Bool.or_false]
  refine PySem.wpAny_bind (wpAny_pure ?_)
  exact PySem.wpAny_bind (wpAny_mono q1 (fun r s2 hr => PySem.wpAny_bind (wpAny_holding (wpAny_point (wpAny_pure hr)))) fun _ _ x => x)
theorem call_zipS {l1 l2 : Addr} {xs ys : Array Value} {Q : Value → Shared → Prop} (hl1 : s.heap.IsTuple l1 xs) (hl2 : s.heap.IsTuple l2 ys)
    (h : ∀ h', ZiS h' (s.heap.objs.size + 4) (s.heap.objs.size + 2) (s.heap.objs.size + 3) .none → IsPair h' (s.heap.objs.size + 2) (.ref s.heap.objs.size) (.ref (s.heap.objs.size + 1)) → IsPair h' (s.heap.objs.size + 3) .none .none → h'.IsTupleIter s.heap.objs.size l1 0 → h'.IsTupleIter (s.heap.objs.size + 1) l2 0 → (∀ c o, s.heap.get? c = some o → h'.get? c = some o) → Q (.ref (s.heap.objs.size + 4)) { s with heap := h' }) :
    wpAny (model prog w) A (call (.type "zip") [.ref l1, .ref l2] [(Str.ofString "strict", .bool true)]) Q E s := by
  refine callType_newKw F.called_zip (by decide) (typeCall_zipS _ _ _) (newCall_zipS _ _ _) (fun obj => argsInit_zipS obj _ _ _) F.entry_zip_new (meets_zipS_new l1 l2 xs ys) ⟨hl1, hl2, ?_⟩
  have n1 : (zS1 s.heap l1).objs.size = s.heap.objs.size + 1 := Heap.size_push ..
  have n2 : (zS2 s.heap l1 l2).objs.size = s.heap.objs.size + 2 := by rw [Heap.size_push, n1]
  have n3 : (zS3 s.heap l1 l2).objs.size = s.heap.objs.size + 3 := by rw [Heap.size_push, n2]
  have n4 : (zS4 s.heap l1 l2).objs.size = s.heap.objs.size + 4 := by rw [Heap.size_push, n3]
  have g5 : (zS5 s.heap l1 l2).get? (zS4 s.heap l1 l2).objs.size = some _ := Heap.get?_push_size _ rfl
  have g4 : (zS5 s.heap l1 l2).get? (zS3 s.heap l1 l2).objs.size = some _ := Heap.get?_push_of_some _ (Heap.get?_push_size _ rfl)
  have g3 : (zS5 s.heap l1 l2).get? (zS2 s.heap l1 l2).objs.size = some _ := Heap.get?_push_of_some _ (Heap.get?_push_of_some _ (Heap.get?_push_size _ rfl))
  have g2 : (zS5 s.heap l1 l2).get? (zS1 s.heap l1).objs.size = some _ := Heap.get?_push_of_some _ (Heap.get?_push_of_some _ (Heap.get?_push_of_some _ (Heap.get?_push_size _ rfl)))
  have g1 : (zS5 s.heap l1 l2).get? s.heap.objs.size = some _ := Heap.get?_push_of_some _ (Heap.get?_push_of_some _ (Heap.get?_push_of_some _ (Heap.get?_push_of_some _ (Heap.get?_push_size _ rfl))))
  show _ ∧ _
  rw [n2, n3, n4] at g5
  rw [n1, n2] at g3
  rw [n3] at g4
  rw [n1] at g2
  rw [n4]
  exact ⟨⟨_, g5, rfl⟩, h _ g5 g3 g4 ⟨_, g1, rfl, rfl⟩ ⟨_, g2, rfl, rfl⟩ fun c o x => Heap.get?_push_of_some _ (Heap.get?_push_of_some _ (Heap.get?_push_of_some _ (Heap.get?_push_of_some _ (Heap.get?_push_of_some _ x))))⟩
end
/-- two tuples of one length, as they stand at each turn -/
def ItS (K : PySem.W.Frag) (a b : Addr) : It :=
  ⟨fun i H => ∃ (xs ys : List V) (x y : V), SqT K H a xs ∧ SqT K H b ys ∧ xs[i]? = some x ∧ ys[i]? = some y, fun i H v H' => ∃ T x y, v = .ref T ∧ H T = none ∧ H' = upd H T (.tup [x, y]) ∧ (∀ xs, SqT K H a xs → xs[i]? = some x) ∧ ∀ ys, SqT K H b ys → ys[i]? = some y, fun i H => ∃ xs ys : List V, SqT K H a xs ∧ SqT K H b ys ∧ xs.length ≤ i ∧ ys.length ≤ i⟩
theorem five {c z TI TO i1 i2 : Addr} (h : c ∈ [z, TI, TO, i1, i2]) : c = z ∨ c = TI ∨ c = TO ∨ c = i1 ∨ c = i2 := by simpa using h
theorem turn_zipS {P : Program} {w : World} {K : PySem.W.Frag} {elts : List Expr} {kk : Nat} {tpos : Pos} {a b z TI TO i1 i2 : Addr} (D : ZipApart z TI TO i1 i2 a b) :
    Turn P w K (.Tuple elts kk tpos) (ItS K a b) [z, TI, TO, i1, i2] z (fun i h => ZiS h z TI TO .none ∧ IsPair h TI (.ref i1) (.ref i2) ∧ (∃ x y, IsPair h TO x y) ∧ h.IsTupleIter i1 a i ∧ h.IsTupleIter i2 b i) where
  mem := by simp
  obj := fun i h st c hc => by
    obtain ⟨hz, hTI, ⟨x, y, hTO⟩, ⟨o1, e1, _, d1⟩, ⟨o2, e2, _, d2⟩⟩ := st
    rcases five hc with rfl | rfl | rfl | rfl | rfl
    · exact ⟨_, hz, fun v q => nomatch q⟩
    · exact ⟨_, hTI, fun v q => nomatch q⟩
    · exact ⟨_, hTO, fun v q => nomatch q⟩
    · exact ⟨o1, e1, fun v q => by rw [d1] at q; cases q⟩
    · exact ⟨o2, e2, fun v q => by rw [d2] at q; cases q⟩
  keep := fun i h h' st k => by
    obtain ⟨hz, hTI, ⟨x, y, hTO⟩, h1, h2⟩ := st
    exact ⟨k z (by simp) _ hz, k TI (by simp) _ hTI, ⟨x, y, k TO (by simp) _ hTO⟩, h1.at fun o q => k i1 (by simp) o q, h2.at fun o q => k i2 (by simp) o q⟩
  item := by
    intro X hP hw hK hc i pins s σ H E I hf st hg
    subst hP hw hK
    obtain ⟨hz, hTI, ⟨x0, y0, hTO⟩, h1, h2⟩ := st
    obtain ⟨xs, ys, x, y, hqx, hqy, hx, hy⟩ := hg
    obtain ⟨its, rv, p, _⟩ := I.tuple hqx
    obtain ⟨its2, rv2, p2, _⟩ := I.tuple hqy
    obtain ⟨u, hu, ru⟩ := rv.get hx
    obtain ⟨u2, hu2, ru2⟩ := rv2.get hy
    have hzl : z < s.heap.objs.size := Heap.lt_size hz
    refine pyNext_zipS_item D hz hTI hTO h1 h2 p p2 (x := u) (y := u2) (by simpa using hu) (by simpa using hu2) fun h' z' TO' h1' h2' hT hsz hk => ?_
    refine ⟨_, rfl, letGo_zipS (s := { s with heap := h' }) z' fun h'' z'' sb => ?_⟩
    have hT2 : h''.get? s.heap.objs.size = some { cls := .type "tuple", data := .seq #[u, u2] } := (sb.2 _ (Nat.ne_of_gt hzl)).trans hT
    have new : ObjOk X.prog X.w (upd H s.heap.objs.size (.tup [x, y])) h'' s.heap.objs.size (.tup [x, y]) := ⟨by show 2 ≤ sizeLine; decide, [u, u2], .cons ru (.cons ru2 .nil), ⟨_, hT2, rfl, _, rfl⟩⟩
    have kk' : ∀ c o, c ∉ [z, TI, TO, i1, i2] → s.heap.get? c = some o → h''.get? c = some o := fun c o hb q => (sb.2 c (fun q' => hb (by simp [q']))).trans (hk c o (fun q' => hb (by simp [q'])) (fun q' => hb (by simp [q'])) (fun q' => hb (by simp [q'])) (fun q' => hb (by simp [q'])) q)
    have I1 : Inv X pins σ (upd H s.heap.objs.size (.tup [x, y])) { s with heap := h'' } := I.turnedNew (t' := s.toks) (ch := [z, TI, TO, i1, i2]) kk' hf (Nat.le_refl _) new
    refine ⟨.ref s.heap.objs.size, _, I1, rfl, ⟨_, x, y, rfl, I.hok.fresh (Nat.le_refl _), rfl, fun l hl => by rw [I.tuple_inj hl hqx]; exact hx, fun l hl => by rw [I.tuple_inj hl hqy]; exact hy⟩, ⟨z'', (sb.2 _ D.TIz).trans (hk _ _ D.TIz D.TITO D.TIi1 D.TIi2 hTI), ⟨u, u2, (sb.2 _ D.TOz).trans TO'⟩, h1'.at fun o q => (sb.2 _ D.i1z).trans q, h2'.at fun o q => (sb.2 _ D.i2z).trans q⟩, fun c hcm => ?_⟩
    have hlt : c < s.heap.objs.size := by
      rcases five hcm with rfl | rfl | rfl | rfl | rfl
      · exact hzl
      · exact Heap.lt_size hTI
      · exact Heap.lt_size hTO
      · obtain ⟨_, e1, _⟩ := h1
        exact Heap.lt_size e1
      · obtain ⟨_, e2, _⟩ := h2
        exact Heap.lt_size e2
    rw [upd_ne (Nat.ne_of_lt hlt)]
    exact (hf c hcm).1
  done := by
    intro X hP hw hK hc i pins s σ H E I hf st hg
    subst hP hw hK
    obtain ⟨hz, hTI, ⟨x0, y0, hTO⟩, h1, h2⟩ := st
    obtain ⟨xs, ys, hqx, hqy, q1, q2⟩ := hg
    obtain ⟨its, rv, p, _⟩ := I.tuple hqx
    obtain ⟨its2, rv2, p2, _⟩ := I.tuple hqy
    have l1 := rv.length
    have l2 := rv2.length
    exact pyNext_zipS_end (I.ok.hd hc) D hz hTI hTO h1 h2 p p2 (by simp; omega) (by simp; omega) fun h' hk => ⟨rfl, I.turnedL (t' := s.toks) (ch := [z, TI, TO, i1, i2]) (fun c o hb q => hk c o (fun q' => hb (by simp [q'])) (fun q' => hb (by simp [q'])) (fun q' => hb (by simp [q'])) (fun q' => hb (by simp [q'])) q) hf⟩
  self := fun A i s Q E st h => pyIter_zipS st.1 h
def iZipS (K : PySem.W.Frag) (ta tk : TA) : TI := fun σ H R => ta σ H fun vs H1 => tk σ H1 fun zs H2 => ∃ a b xs ys, vs = [.ref a, .ref b] ∧ zs = [.bl true] ∧ SqT K H2 a xs ∧ SqT K H2 b ys ∧ R (ItS K a b) H2
theorem pi_zipS {X : Cx} {e e2 : Expr} {ta tk : TA} {p pos tpos : Pos} {elts : List Expr} {kk : Nat} {kws : List Keyword} (hg : Gl X "zip") (hm : X.mg "zip" = none) (ha : PA X [e, e2] ta) (hk : PK X kws tk)
    (he : backTo pos (starEach [e, e2] X.env) = (false, eval e X.env) :: backTo pos (starEach [e2] X.env) := by rfl) (hpl : (backTo pos (starEach [e, e2] X.env)).any (·.1) = false := by rfl)
    (hall : (backToKw pos (keywordEach kws X.env)).all (·.1.isSome) = true := by rfl) (hnone : (backToKw pos (keywordEach kws X.env)).any (·.1.isNone) = false := by rfl) (hks : (backToKw pos (keywordEach kws X.env)).filterMap (·.1) = [Str.ofString "strict"] := by rfl) :
    PI X (.Tuple elts kk tpos) (.Call (.Name "zip" p) [e, e2] kws pos) (iZipS X.K ta tk) := by
  refine ⟨fun pins s σ H R I h => ?_⟩
  refine wpAny_Call_Name_kw (ld_blt I hg hm PyProof.Rows.boot_zip ?_)
  refine callWith_tyK (thn (ha.run pos pins s σ H _ I h) fun us s1 ⟨vs, H1, I1, r1, q1⟩ => thn (hk.run pos pins s1 σ H1 _ I1 q1) fun ws s2 ⟨zs, H2, I2, r2, q2⟩ => ?_) he hpl hall hnone
  rw [hks]
  obtain ⟨a, b, xs, ys, rfl, rfl, hqx, hqy, q⟩ := q2
  cases r1 with
  | cons r rr =>
    cases rr with
    | cons r' rr =>
      cases rr
      cases r
      cases r'
      cases r2 with
      | cons r3 rr3 =>
        cases rr3
        cases r3
        obtain ⟨its, rv, p1, _⟩ := I2.tuple hqx
        obtain ⟨its2, rv2, p2, _⟩ := I2.tuple hqy
        obtain ⟨o1, ho1, _⟩ := id p1
        obtain ⟨o2, ho2, _⟩ := id p2
        refine call_zipS (show s2.heap.IsTuple a its.toArray from p1) (show s2.heap.IsTuple b its2.toArray from p2) fun h' hz hTI hTO h1 h2 hk => pyIter_zipS hz ?_
        have I3 : Inv X pins σ H2 { s2 with heap := h' } := I2.kept (t' := s2.toks) hk
        refine ⟨s2.heap.objs.size + 4, [s2.heap.objs.size + 4, s2.heap.objs.size + 2, s2.heap.objs.size + 3, s2.heap.objs.size, s2.heap.objs.size + 1], _, _, H2, rfl, I3, turn_zipS (PySem.W.ktu_apart s2.heap.objs.size a b (Heap.lt_size ho1) (Heap.lt_size ho2)), ⟨hz, hTI, ⟨_, _, hTO⟩, h1, h2⟩, fun c hcm => ?_, q⟩
        have hle : s2.heap.objs.size ≤ c := by
          rcases five hcm with rfl | rfl | rfl | rfl | rfl
          · exact Nat.le_add_right _ _
          · exact Nat.le_add_right _ _
          · exact Nat.le_add_right _ _
          · exact Nat.le_refl _
          · exact Nat.le_add_right _ _
        exact I2.fpOk hle (I2.hok.fresh hle)
theorem walk_zipS {K : PySem.W.Frag} {a b : Addr} {xs ys : List V} (e : xs.length = ys.length) : Walk (ItS K a b) xs.length (fun H => SqT K H a xs ∧ SqT K H b ys) (fun i H v H' => ∃ T x y, v = .ref T ∧ H T = none ∧ H' = upd H T (.tup [x, y]) ∧ xs[i]? = some x ∧ ys[i]? = some y) :=
  ⟨fun i H hi h => ⟨xs, ys, _, _, h.1, h.2, List.getElem?_eq_getElem hi, List.getElem?_eq_getElem (e ▸ hi)⟩, fun H h => ⟨xs, ys, h.1, h.2, Nat.le_refl _, by omega⟩, fun i H v H' hi h y => by
    obtain ⟨T, x, z, e1, e2, e3, h1, h2⟩ := y
    exact ⟨T, x, z, e1, e2, e3, h1 xs h.1, h2 ys h.2⟩⟩
theorem loopZS {σ : L2.St} {H : Hp} {D : Ends} {K : PySem.W.Frag} {g : TG} {tb : TS} {a b : Addr} {xs ys : List V} (e : xs.length = ys.length) (Pv : Nat → L2.St → Hp → Prop) (h0 : Pv 0 σ H) (hl : ∀ i σ H, i ≤ xs.length → Pv i σ H → SqT K H a xs ∧ SqT K H b ys)
    (hs : ∀ i x y T σ H H', i < xs.length → xs[i]? = some x → ys[i]? = some y → Pv i σ H → H T = none → Sm H H' → H' T = some (.tup [x, y]) → g (.ref T) σ H' fun σ2 H2 => tb (En (Pv (i + 1)) (RT D) (NX D) (Pv (i + 1))) σ2 H2) (hd : ∀ σ H, Pv xs.length σ H → NX D σ H) : Loop (ItS K a b) g tb D σ H :=
  for_it (walk_zipS e) Pv h0 hl (fun i x σ H H' hi p y => by
    obtain ⟨T, u, v, rfl, hT, rfl, h1, h2⟩ := y
    exact hs i u v T σ H _ hi h1 h2 p hT (sm_new hT) upd_same) hd
def ZsE (K : PySem.W.Frag) (R : It → Hp → Prop) (vs zs : List V) (H2 : Hp) : Prop := ∃ a b xs ys, vs = [.ref a, .ref b] ∧ zs = [.bl true] ∧ SqT K H2 a xs ∧ SqT K H2 b ys ∧ R (ItS K a b) H2
theorem w_iZS {K : PySem.W.Frag} {σ : L2.St} {H : Hp} {ta tk : TA} {R : It → Hp → Prop} (k : ta σ H fun vs H1 => tk σ H1 fun zs H2 => ZsE K R vs zs H2) : iZipS K ta tk σ H R := k
theorem w_iZSe {K : PySem.W.Frag} {H : Hp} {R : It → Hp → Prop} {a b : Addr} {xs ys : List V} (h1 : SqT K H a xs) (h2 : SqT K H b ys) (k : R (ItS K a b) H) : ZsE K R [.ref a, .ref b] [.bl true] H := ⟨a, b, xs, ys, rfl, rfl, h1, h2, k⟩
local macro_rules | `(tactic| tm_at "rs") => `(tactic| first | with_reducible refine w_iZS ?_ | ((with_reducible refine' w_iZSe ?h ?i ?k); (case h => tm_at "rst"); (case i => tm_at "rst")) | fail "no")

/-! texts: signs of them -/
theorem tl_len (z : Str) : z.cps.toList.length = z.length := Array.length_toList
theorem w_ixSF {K : PySem.W.Frag} {H : Hp} {Q : VK} {z : Str} {i : Int} (zl : z.length ≤ 1000) (h0 : 0 ≤ i) (h1 : i < (z.length : Int)) (k : ∀ c : Nat, z.cps.toList[i.toNat]? = some c → Q (.str ⟨#[c]⟩) H) : rIx K (.str z) (.int i) H Q := by
  obtain ⟨j, rfl⟩ := Int.eq_ofNat_of_zero_le h0
  have h2 : j < z.cps.toList.length := by rw [tl_len]; omega
  exact .inr (.inr ⟨z, j, _, rfl, rfl, sz_of (by omega), atI_nat (List.getElem?_eq_getElem h2), k _ (List.getElem?_eq_getElem h2)⟩)
def gInS : R2 := fun x y H Q => ∃ (c : Nat) (z : Str), x = .str ⟨#[c]⟩ ∧ y = .str z ∧ Q (.bl (decide (c ∈ z.cps.toList))) H
def gNotInS : R2 := fun x y H Q => ∃ (c : Nat) (z : Str), x = .str ⟨#[c]⟩ ∧ y = .str z ∧ Q (.bl (!decide (c ∈ z.cps.toList))) H
theorem op_gInS {X : Cx} : OpR X (compareOp .In) gInS := op_in_sign
theorem op_gNotInS {X : Cx} : OpR X (compareOp .NotIn) gNotInS := op_notIn_sign
theorem w_inS {H : Hp} {Q : VK} {c : Nat} {z : Str} (k : Q (.bl (decide (c ∈ z.cps.toList))) H) : gInS (.str ⟨#[c]⟩) (.str z) H Q := ⟨c, z, rfl, rfl, k⟩
theorem w_notInS {H : Hp} {Q : VK} {c : Nat} {z : Str} (k : Q (.bl (!decide (c ∈ z.cps.toList))) H) : gNotInS (.str ⟨#[c]⟩) (.str z) H Q := ⟨c, z, rfl, rfl, k⟩
def ItsE (R : It → Hp → Prop) (v : V) (H1 : Hp) : Prop := ∃ x, v = .str x ∧ R (Its x) H1
theorem w_iS {σ : L2.St} {H : Hp} {te : TE} {R : It → Hp → Prop} (k : te σ H fun v H1 => ItsE R v H1) : iStr te σ H R := k
theorem w_iSe {H : Hp} {R : It → Hp → Prop} {z : Str} (k : R (Its z) H) : ItsE R (.str z) H := ⟨z, rfl, k⟩
theorem lcS {σ : L2.St} {H : Hp} {Q : VK} {g : TG} {tt : TT} {te : TE} {vs : List Nat} {z : Str} (Pv : Addr → Nat → Hp → Prop) (h0 : ∀ D H', H D = none → Sm H H' → H' D = some (.lst []) → Pv D 0 H')
    (hs : ∀ D i c H', H D = none → z.cps.toList[i]? = some c → Pv D i H' → g (.str ⟨#[c]⟩) (wipe σ vs) H' fun σ2 H2 => LcGo vs σ σ2 (tt σ2 H2 fun b H3 => if b = true then te σ2 H3 fun y H4 => LcEnd D y (Pv D (i + 1)) H4 else Pv D (i + 1) H3))
    (hd : ∀ D H', H D = none → Pv D z.length H' → Q (.ref D) H') : LcL (Its z) g tt te vs σ H Q := fun D hD =>
  lc_it walk_str (Pv D) (h0 D _ hD (sm_new hD) upd_same) (fun _ _ _ _ => trivial) (fun i x H1 H' hi p y => by
    obtain ⟨rfl, c, hc, rfl⟩ := y
    exact hs D i c _ hD (by rw [Array.getElem?_toList]; exact hc) p) (fun H' p => hd D H' hD p)
theorem app_len (a b : Str) : (a ++ b).length = a.length + b.length := Array.size_append
def ChE (r' : R2) (tc : TE) (σ : L2.St) (Q : VK) (y z : V) (H3 : Hp) : Prop := ∃ k, z = .bl k ∧ (if k = true then tc σ H3 fun w' H4 => r' y w' H4 Q else Q (.bl false) H3)
theorem w_chain {r r' : R2} {ta tb tc : TE} {σ : L2.St} {H : Hp} {Q : VK} (k : ta σ H fun x H1 => tb σ H1 fun y H2 => r x y H2 fun z H3 => ChE r' tc σ Q y z H3) : tChain r r' ta tb tc σ H Q := k
theorem w_chE {r' : R2} {tc : TE} {σ : L2.St} {Q : VK} {y : V} {H3 : Hp} {p : Prop} [Decidable p] (a : p → tc σ H3 fun w' H4 => r' y w' H4 Q) (b : ¬ p → Q (.bl false) H3) : ChE r' tc σ Q y (.bl (decide p)) H3 := by
  refine ⟨_, rfl, ?_⟩
  by_cases h : p
  · rw [if_pos (decide_eq_true h)]; exact a h
  · rw [if_neg (by rw [decide_eq_false h]; decide)]; exact b h
def JoinE (K : PySem.W.Frag) (x y : V) (Q : VK) (H : Hp) : Prop := ∃ a p, ∃ ys : List Str, x = .str a ∧ [y] = [.ref p] ∧ (SqL K H p (ys.map V.str) ∨ SqT K H p (ys.map V.str)) ∧ (ys.map (·.length)).sum + ys.length * a.length ≤ 16777216 ∧ Q (.str (Txt.join a ys)) H
theorem w_join {K : PySem.W.Frag} {to te : TE} {σ : L2.St} {H : Hp} {Q : VK} (k : to σ H fun x H1 => (∃ a, x = .str a) ∧ te σ H1 fun y H2 => JoinE K x y Q H2) :
    tM1 (fun x xs H Q => ∃ a p, ∃ ys : List Str, x = .str a ∧ xs = [.ref p] ∧ (SqL K H p (ys.map V.str) ∨ SqT K H p (ys.map V.str)) ∧ (ys.map (·.length)).sum + ys.length * a.length ≤ 16777216 ∧ Q (.str (Txt.join a ys)) H) to te σ H Q := k
theorem w_isS {P : Prop} {s : Str} (k : P) : (∃ a, V.str s = .str a) ∧ P := ⟨⟨_, rfl⟩, k⟩
theorem sum_ones : ∀ ys : List Str, (∀ y ∈ ys, y.length = 1) → (ys.map (·.length)).sum = ys.length
  | [], _ => rfl
  | y :: ys, h => by
    rw [List.map_cons, List.sum_cons, List.length_cons, sum_ones ys (fun z hz => h z (List.mem_cons_of_mem _ hz)), h y List.mem_cons_self, Nat.add_comm]
theorem w_joinE {K : PySem.W.Frag} {H : Hp} {Q : VK} {p : Addr} {ys : List Str} (h : SqL K H p (ys.map V.str)) (h1 : ∀ y ∈ ys, y.length = 1) (hn : ys.length ≤ 10000) (k : Q (.str (Txt.join (Str.ofString "") ys)) H) : JoinE K (.str (Str.ofString "")) (.ref p) Q H := by
  refine ⟨_, p, ys, rfl, rfl, .inl h, ?_, k⟩
  rw [sum_ones ys h1, show (Str.ofString "").length = 0 from rfl, Nat.mul_zero]
  omega
theorem w_slS {H : Hp} {Q : VK} {z : Str} {lo hi : Option Int} (zl : z.length ≤ 10000) (k : (cutS z lo hi).length ≤ z.length → Q (.str (cutS z lo hi)) H) : rSlS (.str z) lo hi H Q := ⟨z, rfl, sz_of (by omega), k (cutS_length _ _ _)⟩
theorem sgn_len (c : Nat) : (⟨#[c]⟩ : Str).length = 1 := rfl
local macro_rules | `(tactic| tm_at "rs") => `(tactic| first | with_reducible refine w_join ?_ | with_reducible refine w_isS ?_ | ((with_reducible refine w_slS ?h (fun _ => ?_)); (case h => first | omega | (simp only [app_len, sgn_len]; omega))) | with_reducible refine w_chain ?_ | with_reducible refine w_chE (fun _ => ?_) (fun _ => ?_) | with_reducible refine w_inS ?_ | with_reducible refine w_notInS ?_ | with_reducible refine w_iS ?_ | with_reducible refine w_iSe ?_ | ((with_reducible refine w_ixSF ?h ?i ?j (fun _ _ => ?_)); (case h => first | omega | decide); (case i => omega); (case j => first | omega | decide)) | ((with_reducible refine w_lenS ?h ?_); (case h => first | (apply sz_of; omega) | exact sz_of (by decide) | (apply sz_of; simp only [app_len, sgn_len]; omega))) | ((with_reducible refine w_addS ?h ?_); (case h => first | (apply sz_of; omega) | (apply sz_of; simp only [app_len, sgn_len]; omega) | exact sz_of (by decide))) | fail "no")

/-! enumerate over a text -/
def ItSE (x : Str) : It :=
  ⟨fun i _ => i < x.cps.size, fun i H v H' => ∃ T c, v = .ref T ∧ H T = none ∧ H' = upd H T (.tup [.int (i : Nat), .str ⟨#[c]⟩]) ∧ x.cps[i]? = some c, fun i _ => x.cps.size = i⟩
theorem turn_SE {P : Program} {w : World} {K : PySem.W.Frag} {elts : List Expr} {kk : Nat} {tpos : Pos} (x : Str) (t : Tok) (e it : Addr) :
    Turn P w K (.Tuple elts kk tpos) (ItSE x) [e, it] e (fun i h => (∃ old, IsEnum h e it ((i : Nat) : Int) old) ∧ h.IsStrIter it (strIterType x) x t i ∧ e ≠ it) where
  mem := List.mem_cons_self
  obj := by
    rintro i h ⟨⟨old, he⟩, ⟨o, ho, hc, hd⟩, _⟩ b hb
    rcases (show b = e ∨ b = it by simpa using hb) with rfl | rfl
    · exact ⟨_, he, fun v q => nomatch q⟩
    · exact ⟨o, ho, fun v q => by rw [hd] at q; cases q⟩
  keep := by
    rintro i h h' ⟨⟨old, he⟩, ⟨o, ho, r⟩, ne⟩ k
    exact ⟨⟨old, k e (by simp) _ he⟩, ⟨o, k it (by simp) o ho, r⟩, ne⟩
  item := by
    intro X hP hw hK hc i pins s σ H E I hf st hg
    subst hP hw hK
    obtain ⟨⟨old, he⟩, hit, hne⟩ := st
    have hel : e < s.heap.objs.size := Heap.lt_size he
    have hil : it < s.heap.objs.size := by
      obtain ⟨_, q, _⟩ := hit
      exact Heap.lt_size q
    have hif : e ∉ [it] := by simpa using hne
    have D := Draws.text (prog := X.prog) (w := X.w) (A := X.A.in1) (I.ok.hd hc) it x t
    refine wpAny_pyNext_enum_itemD D he hit hg hne hif fun u h' tk hu ho hit' hT hsz hk => ?_
    obtain ⟨c, tc, hcx, rfl⟩ := hu
    refine ⟨_, rfl, wpAny_letOwnedTupleGo_enum (prog := X.prog) (w := X.w) (s := { s with heap := h', toks := tk + 1 }) ho fun h'' he' sb => ?_⟩
    have hT2 := (sb.2 _ (Nat.ne_of_gt hel)).trans hT
    have new : ObjOk X.prog X.w (upd H s.heap.objs.size (.tup [.int (i : Nat), .str ⟨#[c]⟩])) h'' s.heap.objs.size (.tup [.int (i : Nat), .str ⟨#[c]⟩]) :=
      ⟨by show 2 ≤ sizeLine; decide, [.int i tk, .str ⟨#[c]⟩ tc], .cons ⟨_, rfl⟩ (.cons ⟨_, rfl⟩ .nil), ⟨_, hT2, rfl, _, rfl⟩⟩
    have I1 := Inv.turnedNew (t' := tk + 1) I (ch := [e, it]) (fun b ob hb q => (sb.2 b (fun z => hb (by simp [z]))).trans (hk b ob (fun z => hb (by simp [z])) (fun z => hb (by simp [z])) q)) hf (Nat.le_refl _) new
    refine ⟨.ref s.heap.objs.size, _, I1, rfl, ⟨_, c, rfl, I.hok.fresh (Nat.le_refl _), rfl, hcx⟩, ⟨⟨.str ⟨#[c]⟩ tc, ?_⟩, ?_, hne⟩, fun b hb => ?_⟩
    · rw [show ((i + 1 : Nat) : Int) = (i : Int) + 1 from rfl]
      exact he'
    · obtain ⟨o, q, r⟩ := hit'
      exact ⟨o, (sb.2 it (Ne.symm hne)).trans q, r⟩
    · have hb' : b < s.heap.objs.size := by
        rcases (show b = e ∨ b = it by simpa using hb) with rfl | rfl
        · exact hel
        · exact hil
      rw [upd_ne (Nat.ne_of_lt hb')]
      exact (hf b hb).1
  done := by
    intro X hP hw hK hc i pins s σ H E I hf st hg
    subst hP hw hK
    obtain ⟨⟨old, he⟩, hit, hne⟩ := st
    have hg : x.cps.size = i := hg
    subst hg
    obtain ⟨f0, f1, f2, f3, f4, f5⟩ := hf it (by simp)
    have D := Draws.text (prog := X.prog) (w := X.w) (A := X.A.in1) (I.ok.hd hc) it x t
    exact wpAny_pyNext_enum_endD D he hit fun h' eb => ⟨rfl, I.turned (t' := s.toks) (fun b o hb q => eb b o hb q) f0 f1 f3 f4 f5⟩
  self := fun A i s Q E st h => by
    obtain ⟨⟨_, he⟩, _⟩ := st
    exact wpAny_pyIter_enum he h
def iSE (ta : TA) : TI := fun σ H R => ta σ H fun vs H1 => ∃ x, vs = [.str x] ∧ R (ItSE x) H1
theorem pi_SE {X : Cx} {e : Expr} {ta : TA} {p pos tpos : Pos} {elts : List Expr} {kk : Nat} (hg : Gl X "enumerate") (hm : X.mg "enumerate" = none) (ha : PA X [e] ta) (hs : starEach [e] X.env = [(false, eval e X.env)] := by rfl) :
    PI X (.Tuple elts kk tpos) (.Call (.Name "enumerate" p) [e] [] pos) (iSE ta) := by
  refine ⟨fun pins s σ H R I h => Call_ (ld_blt I hg hm boot_enumerate (PyProof.Rows.callWith_type1 (thn (ha.run pos pins s σ H _ I h) fun us s1 ⟨vs, H1, I1, r1, q1⟩ => ?_) hs rfl))⟩
  obtain ⟨x, rfl, q⟩ := q1
  obtain ⟨u, rfl, t, rfl⟩ := vals1 r1
  refine call_enumerate_str fun h' he hit hsz hk => wpAny_pyIter_enum he ?_
  have I2 : Inv X pins σ H1 { s1 with heap := h' } := Inv.kept (t' := s1.toks) I1 hk
  refine ⟨s1.heap.objs.size + 1, [s1.heap.objs.size + 1, s1.heap.objs.size], _, _, H1, rfl, I2, turn_SE x t (s1.heap.objs.size + 1) s1.heap.objs.size, ⟨⟨.none, he⟩, hit, Nat.succ_ne_self _⟩, fun b hb => ?_, q⟩
  have hle : s1.heap.objs.size ≤ b := by
    rcases (show b = s1.heap.objs.size + 1 ∨ b = s1.heap.objs.size by simpa using hb) with rfl | rfl
    · exact Nat.le_add_right _ _
    · exact Nat.le_refl _
  exact I1.fpOk hle (I1.hok.fresh hle)
theorem walk_SE {z : Str} : Walk (ItSE z) z.cps.size (fun _ => True) (fun i H v H' => ∃ T c, v = .ref T ∧ H T = none ∧ H' = upd H T (.tup [.int (i : Nat), .str ⟨#[c]⟩]) ∧ z.cps[i]? = some c) :=
  ⟨fun _ _ hi _ => hi, fun _ _ => rfl, fun _ _ _ _ _ _ y => y⟩
def SEe (R : It → Hp → Prop) (vs : List V) (H1 : Hp) : Prop := ∃ x, vs = [.str x] ∧ R (ItSE x) H1
theorem w_iSE {σ : L2.St} {H : Hp} {ta : TA} {R : It → Hp → Prop} (k : ta σ H fun vs H1 => SEe R vs H1) : iSE ta σ H R := k
theorem w_iSEe {H : Hp} {R : It → Hp → Prop} {x : Str} (k : R (ItSE x) H) : SEe R [.str x] H := ⟨x, rfl, k⟩
theorem loopSE {σ : L2.St} {H : Hp} {D : Ends} {g : TG} {tb : TS} {z : Str} (Pv : Nat → L2.St → Hp → Prop) (h0 : Pv 0 σ H)
    (hs : ∀ i c T σ H H', i < z.cps.size → z.cps.toList[i]? = some c → Pv i σ H → H T = none → Sm H H' → H' T = some (.tup [.int (i : Nat), .str ⟨#[c]⟩]) → g (.ref T) σ H' fun σ2 H2 => tb (En (Pv (i + 1)) (RT D) (NX D) (Pv (i + 1))) σ2 H2)
    (hd : ∀ σ H, Pv z.cps.size σ H → NX D σ H) : Loop (ItSE z) g tb D σ H :=
  for_it walk_SE Pv h0 (fun _ _ _ _ _ => trivial) (fun i x σ H H' hi p y => by
    obtain ⟨T, c, rfl, hT, rfl, hc⟩ := y
    exact hs i c T σ H _ hi (by rw [Array.getElem?_toList]; exact hc) p hT (sm_new hT) upd_same) hd
/-- what is never reached -/
theorem ps_never {X : Cx} {st : Stmt} : PS X st (fun _ _ _ => False) := ⟨fun _ _ _ _ _ _ h => h.elim⟩
local macro_rules | `(tactic| tm_at "rs") => `(tactic| first | with_reducible refine w_iSE ?_ | with_reducible refine w_iSEe ?_ | fail "no")

/-! enumerate over a list -/
def EnE (K : PySem.W.Frag) (R : It → Hp → Prop) (vs : List V) (H1 : Hp) : Prop := ∃ a xs, vs = [.ref a] ∧ SqL K H1 a xs ∧ R (Ite K a) H1
theorem w_iEn {K : PySem.W.Frag} {σ : L2.St} {H : Hp} {ta : TA} {R : It → Hp → Prop} (k : ta σ H fun vs H1 => EnE K R vs H1) : iEnum K ta σ H R := k
theorem w_iEne {K : PySem.W.Frag} {H : Hp} {R : It → Hp → Prop} {a : Addr} {xs : List V} (h : SqL K H a xs) (k : R (Ite K a) H) : EnE K R [.ref a] H := ⟨a, xs, rfl, h, k⟩
theorem loopEn {σ : L2.St} {H : Hp} {D : Ends} {K : PySem.W.Frag} {g : TG} {tb : TS} {a : Addr} {xs : List V} (Pv : Nat → L2.St → Hp → Prop) (h0 : Pv 0 σ H) (hl : ∀ i σ H, i ≤ xs.length → Pv i σ H → SqL K H a xs)
    (hs : ∀ i x T σ H H', i < xs.length → xs[i]? = some x → Pv i σ H → H T = none → Sm H H' → H' T = some (.tup [.int (i : Nat), x]) → g (.ref T) σ H' fun σ2 H2 => tb (En (Pv (i + 1)) (RT D) (NX D) (Pv (i + 1))) σ2 H2)
    (hd : ∀ σ H, Pv xs.length σ H → NX D σ H) : Loop (Ite K a) g tb D σ H :=
  for_it walk_enum Pv h0 hl (fun i x σ H H' hi p y => by
    obtain ⟨T, u, v, rfl, hT, rfl, h1, h2⟩ := y
    cases h1
    exact hs i v T σ H _ hi h2 p hT (sm_new hT) upd_same) hd
theorem lcEn {σ : L2.St} {H : Hp} {Q : VK} {K : PySem.W.Frag} {g : TG} {tt : TT} {te : TE} {vs : List Nat} {a : Addr} {xs : List V} (Pv : Addr → Nat → Hp → Prop) (h0 : ∀ D H', H D = none → Sm H H' → H' D = some (.lst []) → Pv D 0 H')
    (hl : ∀ D i H', H D = none → i ≤ xs.length → Pv D i H' → SqL K H' a xs)
    (hs : ∀ D i x T H1 H', H D = none → i < xs.length → xs[i]? = some x → Pv D i H1 → H1 T = none → Sm H1 H' → H' T = some (.tup [.int (i : Nat), x]) → g (.ref T) (wipe σ vs) H' fun σ2 H2 => LcGo vs σ σ2 (tt σ2 H2 fun b H3 => if b = true then te σ2 H3 fun y H4 => LcEnd D y (Pv D (i + 1)) H4 else Pv D (i + 1) H3))
    (hd : ∀ D H', H D = none → Pv D xs.length H' → Q (.ref D) H') : LcL (Ite K a) g tt te vs σ H Q := fun D hD =>
  lc_it walk_enum (Pv D) (h0 D _ hD (sm_new hD) upd_same) (fun i H' hi p => hl D i H' hD hi p) (fun i x H1 H' hi p y => by
    obtain ⟨T, u, v, rfl, hT, rfl, h1, h2⟩ := y
    cases h1
    exact hs D i v T H1 _ hD hi h2 p hT (sm_new hT) upd_same) (fun H' p => hd D H' hD p)
local macro_rules | `(tactic| tm_at "rs") => `(tactic| first | with_reducible refine w_iEn ?_ | ((with_reducible refine' w_iEne ?h ?k); (case h => tm_at "rsq")) | fail "no")

/-! figures to a number -/
def hrn (b : Int) : List Int → Int
  | [] => 0
  | x :: l => hrn b l * b + x
theorem hrn_app (b : Int) (x : Int) : ∀ l : List Int, hrn b (l ++ [x]) = hrn b l + x * b ^ l.length
  | [] => by
    show 0 * b + x = 0 + x * b ^ 0
    rw [Int.zero_mul, Int.pow_zero, Int.mul_one]
  | y :: l => by
    show hrn b (l ++ [x]) * b + y = hrn b l * b + y + x * b ^ (l.length + 1)
    rw [hrn_app b x l, Int.add_mul, Int.mul_assoc, ← Int.pow_succ, Int.add_right_comm]
theorem hrn_bd {b : Int} (hb : b.natAbs < 2 ^ 41) : ∀ l : List Int, (∀ n ∈ l, n.natAbs < 2 ^ 2000) → (hrn b l).natAbs < 2 ^ (2000 + 42 * l.length)
  | [], _ => Nat.two_pow_pos _
  | x :: l, h => by
    have h1 := hrn_bd hb l (fun n hn => h n (List.mem_cons_of_mem _ hn))
    have h2 := h x List.mem_cons_self
    have h3 : (hrn b l * b + x).natAbs ≤ (hrn b l).natAbs * b.natAbs + x.natAbs := by
      have := Int.natAbs_add_le (hrn b l * b) x
      rw [Int.natAbs_mul] at this
      exact this
    have h4 : (hrn b l).natAbs * b.natAbs < 2 ^ (2000 + 42 * l.length) * 2 ^ 41 := Nat.mul_lt_mul'' h1 hb
    have h5 : 2 ^ 2000 ≤ 2 ^ (2000 + 42 * l.length) * 2 ^ 41 := by
      rw [← Nat.pow_add]
      exact Nat.pow_le_pow_right (by decide) (by omega)
    have h6 : 2 ^ (2000 + 42 * (x :: l).length) = 2 ^ (2000 + 42 * l.length) * 2 ^ 41 + 2 ^ (2000 + 42 * l.length) * 2 ^ 41 := by
      rw [← Nat.pow_add, show 2000 + 42 * (x :: l).length = (2000 + 42 * l.length + 41) + 1 by rw [List.length_cons]; omega, Nat.pow_succ, Nat.mul_two]
    show (hrn b l * b + x).natAbs < _
    rw [h6]
    generalize 2 ^ (2000 + 42 * l.length) * 2 ^ 41 = A at *
    generalize (2 : Nat) ^ 2000 = B at *
    omega
theorem bpow_bd {b : Int} (hb : b.natAbs < 2 ^ 41) (i : Nat) : (b ^ i).natAbs < 2 ^ (41 * i + 1) := by
  rw [Int.natAbs_pow, Nat.pow_succ, Nat.pow_mul]
  have h := Nat.pow_le_pow_left (Nat.le_of_lt hb) i
  have h2 : 0 < (2 ^ 41 : Nat) ^ i := Nat.pow_pos (by decide)
  omega
theorem hrn_drop {b : Int} {ns : List Int} {i : Nat} {m : Int} (hi : i < ns.length) (h : ns[ns.length - 1 - i]? = some m) : hrn b (ns.drop (ns.length - (i + 1))) = hrn b (ns.drop (ns.length - i)) * b + m := by
  obtain ⟨h1, h2⟩ := List.getElem?_eq_some_iff.mp h
  have e : ns.length - (i + 1) = ns.length - 1 - i := by omega
  rw [e, List.drop_eq_getElem_cons h1, h2, show ns.length - 1 - i + 1 = ns.length - i by omega]
  rfl
theorem hrn_take {b : Int} {ns : List Int} {i : Nat} {m : Int} (h : ns[i]? = some m) : hrn b (ns.take (i + 1)) = hrn b (ns.take i) + m * b ^ i := by
  obtain ⟨h1, h2⟩ := List.getElem?_eq_some_iff.mp h
  rw [List.take_succ, h]
  show hrn b (ns.take i ++ [m]) = _
  rw [hrn_app, List.length_take, Nat.min_eq_left (Nat.le_of_lt h1)]
theorem ints_at {ns : List Int} {i : Nat} {x : V} (h : (ns.map V.int)[i]? = some x) : ∃ m, ns[i]? = some m ∧ x = V.int m := by
  rw [List.getElem?_map] at h
  cases e : ns[i]? with
  | none => rw [e] at h; cases h
  | some m => rw [e] at h; cases h; exact ⟨m, rfl, rfl⟩
/-! a walk backwards -/
def RvE (K : PySem.W.Frag) (R : It → Hp → Prop) (v : V) (H1 : Hp) : Prop := ∃ (a : Addr) (xs : List V), v = .ref a ∧ ((SqL K H1 a xs ∧ R (Itv K a xs.length) H1) ∨ (SqT K H1 a xs ∧ R (_root_.RT.ItvT K a xs.length) H1))
theorem w_iRv {K : PySem.W.Frag} {σ : L2.St} {H : Hp} {te : TE} {R : It → Hp → Prop} (k : te σ H fun v H1 => RvE K R v H1) : _root_.RT.iRevA K te σ H R := k
theorem walk_revT {K : PySem.W.Frag} {a : Addr} {xs : List V} : Walk (_root_.RT.ItvT K a xs.length) xs.length (fun H => SqT K H a xs) (fun i H x H' => H' = H ∧ xs[xs.length - 1 - i]? = some x) :=
  ⟨fun i H hi h => ⟨hi, xs, _, h, List.getElem?_eq_getElem (by omega)⟩, fun H h => Nat.le_refl _, fun i H x H' hi h y => ⟨y.1, y.2 xs h⟩⟩
theorem loopVL {σ : L2.St} {H : Hp} {D : Ends} {K : PySem.W.Frag} {g : TG} {tb : TS} {a : Addr} {xs : List V} (Pv : Nat → L2.St → Hp → Prop) (h0 : Pv 0 σ H) (hl : ∀ i σ H, i ≤ xs.length → Pv i σ H → SqL K H a xs)
    (hs : ∀ i x σ H, i < xs.length → xs[xs.length - 1 - i]? = some x → Pv i σ H → g x σ H fun σ2 H2 => tb (En (Pv (i + 1)) (RT D) (NX D) (Pv (i + 1))) σ2 H2) (hd : ∀ σ H, Pv xs.length σ H → NX D σ H) : Loop (Itv K a xs.length) g tb D σ H :=
  for_it walk_rev Pv h0 hl (fun i x σ H H' hi p y => by obtain ⟨rfl, e⟩ := y; exact hs i x σ _ hi e p) hd
theorem loopVT {σ : L2.St} {H : Hp} {D : Ends} {K : PySem.W.Frag} {g : TG} {tb : TS} {a : Addr} {xs : List V} (Pv : Nat → L2.St → Hp → Prop) (h0 : Pv 0 σ H) (hl : ∀ i σ H, i ≤ xs.length → Pv i σ H → SqT K H a xs)
    (hs : ∀ i x σ H, i < xs.length → xs[xs.length - 1 - i]? = some x → Pv i σ H → g x σ H fun σ2 H2 => tb (En (Pv (i + 1)) (RT D) (NX D) (Pv (i + 1))) σ2 H2) (hd : ∀ σ H, Pv xs.length σ H → NX D σ H) : Loop (_root_.RT.ItvT K a xs.length) g tb D σ H :=
  for_it walk_revT Pv h0 hl (fun i x σ H H' hi p y => by obtain ⟨rfl, e⟩ := y; exact hs i x σ _ hi e p) hd
theorem w_rep1 {H : Hp} {Q : VK} {l : Addr} {m j : Int} (h : H l = some (.lst [.int m])) (h0 : 0 ≤ j) (h1 : j ≤ 1000) (k : ∀ p H', H p = none → Sm H H' → H' p = some (.lst ((List.replicate j.toNat m).map V.int)) → Q (.ref p) H') : gMul (.ref l) (.int j) H Q := by
  refine .inr (.inr ⟨l, j, _, rfl, rfl, h, by omega, by omega, sz_of ?_, fun p hp => k p _ hp (sm_new hp) ?_⟩)
  · show 1 * j.toNat ≤ _
    omega
  · rw [upd_same, List.map_replicate, List.flatten_replicate_singleton]
theorem w_addInts {K : PySem.W.Frag} {H : Hp} {Q : VK} {l m : Addr} {ns ms : List Int} (h1 : H l = some (.lst (ns.map V.int))) (h2 : H m = some (.lst (ms.map V.int))) (z : ns.length + ms.length ≤ 1000) (k : ∀ p H', H p = none → Sm H H' → H' p = some (.lst ((ns ++ ms).map V.int)) → Q (.ref p) H') :
    gAdd K (.ref l) (.ref m) H Q := w_addL h1 h2 (sz_of (by rw [List.length_map, List.length_map]; omega)) fun p H' a b c => k p H' a b (by rw [List.map_append]; exact c)
theorem w_ix4P {K : PySem.W.Frag} {H : Hp} {Q : VK} {i : Int} {p : Addr} {x0 x1 x2 x3 : Int} (h : SqL K H p [.int x0, .int x1, .int x2, .int x3]) (h0 : 1 ≤ i) (h1 : i < 4) (k : ∀ z : Int, z = x1 ∨ z = x2 ∨ z = x3 → Q (.int z) H) : rIx K (.ref p) (.int i) H Q := by
  rcases (show i = 1 ∨ i = 2 ∨ i = 3 by omega) with rfl | rfl | rfl
  · exact w_ixL' h (atI_nat (j := 1) rfl) (k _ (by omega))
  · exact w_ixL' h (atI_nat (j := 2) rfl) (k _ (by omega))
  · exact w_ixL' h (atI_nat (j := 3) rfl) (k _ (by omega))
theorem w_gLstL {K : PySem.W.Frag} {H : Hp} {Q : VK} {p : Addr} {ys : List V} (h : SqL K H p ys) (k : ∀ l H', H l = none → Sm H H' → H' l = some (.lst ys) → Q (.ref l) H') : gLst K [.ref p] H Q := ⟨p, ys, rfl, .inl h, fun l hl => k l _ hl (sm_new hl) upd_same⟩
theorem w_gTplL {K : PySem.W.Frag} {H : Hp} {Q : VK} {p : Addr} {ys : List V} (h : SqL K H p ys) (k : ∀ l H', H l = none → Sm H H' → H' l = some (.tup ys) → Q (.ref l) H') : gTpl K [.ref p] H Q := ⟨p, ys, rfl, .inl ⟨h, fun l hl => k l _ hl (sm_new hl) upd_same⟩⟩
theorem dp_ints {K : PySem.W.Frag} {H : Hp} : ∀ ns : List Int, DpAll K H (ns.map V.int) (ns.map PyData.int)
  | [] => .nil
  | n :: ns => .cons (.int n) (dp_ints ns)
theorem w_neInts {K : PySem.W.Frag} {H : Hp} {Q : VK} {a b : Addr} {ns : List Int} (h1 : SqL K H a (ns.map V.int)) (h2 : SqL K H b (ns.map V.int)) (k : Q (.bl false) H) : gNe K (.ref a) (.ref b) H Q := by
  refine .inr ⟨.list (ns.map .int), .list (ns.map .int), .lst h1 (dp_ints ns), .lst h2 (dp_ints ns), PySem.W.ke_shaped_ints ns, PySem.W.ke_shaped_ints ns, ?_⟩
  have e : PyData.eqv (.list (ns.map .int)) (.list (ns.map .int)) = true := by
    rw [PyData.eqv, PySem.W.ked_eqvAll]
    exact decide_eq_true rfl
  rw [e]
  exact k
local macro_rules | `(tactic| tm_at "rs") => `(tactic| first | ((with_reducible refine' w_gLstL ?h (fun _ _ _ _ _ => ?k)); (case h => tm_at "rsq")) | fail "no")
local macro_rules | `(tactic| tm_at "rs") => `(tactic| first | ((with_reducible refine' w_gTplL ?h (fun _ _ _ _ _ => ?k)); (case h => tm_at "rsq")) | fail "no")
local macro_rules | `(tactic| tm_at "rs") => `(tactic| first | ((with_reducible refine' w_neInts ?h ?i ?k); (case h => tm_at "rsq"); (case i => tm_at "rsq")) | fail "no")
local macro_rules | `(tactic| tm_at "rs") => `(tactic| first | ((with_reducible refine' w_rep1 ?h ?i ?j (fun _ _ _ _ _ => ?k)); (case h => tm_at "rlk"); (case i => omega); (case j => omega)) | fail "no")
local macro_rules | `(tactic| tm_at "rs") => `(tactic| first | ((with_reducible refine' w_addInts ?h ?i ?z (fun _ _ _ _ _ => ?k)); (case h => tm_at "rlk"); (case i => tm_at "rlk"); (case z => (simp only [List.length_append, List.length_replicate]; omega))) | fail "no")
local macro_rules | `(tactic| tm_at "rs") => `(tactic| first | ((with_reducible refine' w_ix4P ?h ?a ?b (fun _ _ => ?k)); (case h => tm_at "rsq"); (case a => omega); (case b => omega)) | fail "no")
local macro_rules | `(tactic| tm_at "rs") => `(tactic| with_reducible refine w_iRv ?_)

/-! terms: nested pairs and triples -/
inductive Tm where
  | num (n : Nat)
  | name (s : Str)
  | op (w : Str) (a b : Tm)
def Tm.dep : Tm → Nat
  | .num _ => 0
  | .name _ => 0
  | .op _ a b => max a.dep b.dep + 1
def Tm.wt : Tm → Nat
  | .num _ => 1
  | .name _ => 1
  | .op _ a b => a.wt + b.wt + 2
theorem Tm.wt_pos : ∀ t : Tm, 1 ≤ t.wt
  | .num _ => Nat.le_refl _
  | .name _ => Nat.le_refl _
  | .op _ a b => by
    show 1 ≤ a.wt + b.wt + 2
    omega
def TmAt (K : PySem.W.Frag) (H : Hp) : Tm → V → Prop
  | .num n, v => ∃ p, v = .ref p ∧ TpK K H p [.str "num", .int (n : Int)]
  | .name s, v => ∃ p, v = .ref p ∧ TpK K H p [.str "name", .str s]
  | .op w a b, v => ∃ p x y, v = .ref p ∧ TpK K H p [.str w, x, y] ∧ TmAt K H a x ∧ TmAt K H b y
theorem TmAt.imp {K : PySem.W.Frag} {H H' : Hp} (h : Tk H H') : ∀ {t : Tm} {v : V}, TmAt K H t v → TmAt K H' t v
  | .num n, v, ⟨p, e, q⟩ => ⟨p, e, q.imp h⟩
  | .name s, v, ⟨p, e, q⟩ => ⟨p, e, q.imp h⟩
  | .op w a b, v, ⟨p, x, y, e, q, r1, r2⟩ => ⟨p, x, y, e, q.imp h, TmAt.imp h r1, TmAt.imp h r2⟩
theorem TmAt.tk {K : PySem.W.Frag} {H H' : Hp} {t : Tm} {v : V} (r : TmAt K H t v) (e : Tk H H') : TmAt K H' t v := r.imp e
theorem TmAt.sm {K : PySem.W.Frag} {H H' : Hp} {t : Tm} {v : V} (r : TmAt K H t v) (e : Sm H H') : TmAt K H' t v := r.imp (Tk.sm e)
theorem TmAt.kpL {K : PySem.W.Frag} {H H' : Hp} {t : Tm} {v : V} {b : Addr} {ys : List V} (r : TmAt K H t v) (hb : H b = some (.lst ys)) (e : Kp b H H') : TmAt K H' t v := r.imp (Tk.kp hb e)
theorem TmAt.kpD {K : PySem.W.Frag} {H H' : Hp} {t : Tm} {v : V} {b : Addr} {ys : List (Key × V)} (r : TmAt K H t v) (hb : H b = some (.dK ys)) (e : Kp b H H') : TmAt K H' t v := r.imp (Tk.kd hb e)
theorem tm_num {K : PySem.W.Frag} {H : Hp} {p : Addr} {n : Nat} (h : H p = some (.tup [.str "num", .int (n : Int)])) : TmAt K H (.num n) (.ref p) := ⟨p, rfl, .inl h⟩
theorem tm_name {K : PySem.W.Frag} {H : Hp} {p : Addr} {s : Str} (h : H p = some (.tup [.str "name", .str s])) : TmAt K H (.name s) (.ref p) := ⟨p, rfl, .inl h⟩
theorem tm_op {K : PySem.W.Frag} {H : Hp} {p : Addr} {w : Str} {x y : V} {a b : Tm} (h : H p = some (.tup [.str w, x, y])) (ha : TmAt K H a x) (hb : TmAt K H b y) : TmAt K H (.op w a b) (.ref p) := ⟨p, x, y, rfl, .inl h, ha, hb⟩
def cm (w : Str) (x y : Nat) : Nat := if w = "plus" then x + y else if w = "times" then x * y else x ^ y
def ev (g : Str → Nat) : Tm → Nat
  | .num n => n
  | .name s => g s
  | .op w a b => cm w (ev g a) (ev g b)
def PwOk (x y n : Nat) : Prop := y * (n - 1) < 1000000 ∧ ∃ r : Nat, x ^ y < 2 ^ r ∧ r ≤ 1000000
theorem pw_of {x y n : Nat} (hx : x < 2 ^ n) (n1 : 1 ≤ n) (h : n * y ≤ 1000000) : PwOk x y n := by
  rcases Nat.eq_zero_or_pos y with h0 | h0
  · subst h0
    refine ⟨by omega, 1, ?_, by decide⟩
    rw [Nat.pow_zero]
    decide
  · refine ⟨?_, n * y, ?_, h⟩
    · rw [Nat.mul_comm] at h
      rw [Nat.mul_sub, Nat.mul_one]
      have := Nat.le_mul_of_pos_right y (show 0 < n by omega)
      omega
    · rw [Nat.pow_mul]
      exact Nat.pow_lt_pow_left hx (by omega)
def CmOk (w : Str) (x y : Nat) : Prop := ∃ n : Nat, 1 ≤ n ∧ x < 2 ^ n ∧ ((w = "plus" ∧ y < 2 ^ n ∧ n + 1 ≤ 1000000) ∨ (w = "times" ∧ ∃ m : Nat, y < 2 ^ m ∧ n + m ≤ 1000000) ∨ (w ≠ "plus" ∧ w ≠ "times" ∧ PwOk x y n))
def TmOk (kvs : List (Key × V)) (g : Str → Nat) : Tm → Prop
  | .num n => ∃ m : Nat, n < 2 ^ m ∧ m ≤ 1000000
  | .name s => valV kvs (.inr s) = some (.int (g s : Nat)) ∧ ∃ m : Nat, g s < 2 ^ m ∧ m ≤ 1000000
  | .op w a b => w ≠ "num" ∧ w ≠ "name" ∧ TmOk kvs g a ∧ TmOk kvs g b ∧ CmOk w (ev g a) (ev g b)
/-! fields of an own object -/
def FldE (K : PySem.W.Frag) (f : Str) (Q : VK) (x : V) (H1 : Hp) : Prop := ∃ (a C dx : Addr) (fs : List (Str × V)) (v : V), x = .ref a ∧ H1 a = some (.ins C dx fs) ∧ Cls K C ∧ NoAttr K C f ∧ fs.lookup f = some v ∧ Q v H1
theorem w_fld {K : PySem.W.Frag} {f : Str} {σ : L2.St} {H : Hp} {Q : VK} {ta : TE} (k : ta σ H fun x H1 => FldE K f Q x H1) : tFld K ta f σ H Q := k
def SFldE (K : PySem.W.Frag) (f : Str) (D : Ends) (σ : L2.St) (x y : V) (H2 : Hp) : Prop := ∃ (a C dx : Addr) (fs : List (Str × V)), x = .ref a ∧ H2 a = some (.ins C dx fs) ∧ Cls K C ∧ NoAttr K C f ∧ fs.length < 1000 ∧ D.nx σ (upd H2 a (.ins C dx (putF f y fs)))
theorem w_sfld {K : PySem.W.Frag} {f : Str} {D : Ends} {σ : L2.St} {H : Hp} {ta tv : TE} (k : tv σ H fun y H1 => ta σ H1 fun x H2 => SFldE K f D σ x y H2) : sFld K ta tv f D σ H := k
theorem w_sfldE {K : PySem.W.Frag} {f : Str} {D : Ends} {σ : L2.St} {y : V} {H : Hp} {a C dx : Addr} {fs : List (Str × V)} (h : H a = some (.ins C dx fs)) (c : Cls K C) (n : NoAttr K C f) (l : fs.length < 1000) (k : ∀ H', Kp a H H' → H' a = some (.ins C dx (putF f y fs)) → NX D σ H') : SFldE K f D σ (.ref a) y H :=
  ⟨a, C, dx, fs, rfl, h, c, n, l, k _ kp_upd upd_same⟩
/-! a dict's items -/
def DgE (Q : VK) (x y : V) (H2 : Hp) : Prop := ∃ a v, x = .ref a ∧ DGet H2 a y (some v) ∧ Q v H2
theorem w_dg {td ty : TE} {σ : L2.St} {H : Hp} {Q : VK} (k : td σ H fun x H1 => ty σ H1 fun y H2 => DgE Q x y H2) : tDGet td ty σ H Q := k
theorem w_dge {H : Hp} {Q : VK} {a : Addr} {s : Str} {v : V} {kvs : List (Key × V)} (h : H a = some (.dK kvs)) (e : valV kvs (.inr s) = some v) (k : Q v H) : DgE Q (.ref a) (.str s) H := ⟨a, v, rfl, .inl ⟨kvs, .inr s, .inl h, rfl, e.symm⟩, k⟩
def DpE (D : Ends) (σ : L2.St) (v x y : V) (H3 : Hp) : Prop := ∃ a H4, x = .ref a ∧ DPut H3 a y v H4 ∧ D.nx σ H4
theorem w_dp {td ty tv : TE} {D : Ends} {σ : L2.St} {H : Hp} (k : tv σ H fun v H1 => td σ H1 fun x H2 => ty σ H2 fun y H3 => DpE D σ v x y H3) : sDPut td ty tv D σ H := k
theorem w_dpe {D : Ends} {σ : L2.St} {H : Hp} {a : Addr} {s : Str} {v : V} {kvs : List (Key × V)} (h : H a = some (.dK kvs)) (l : kvs.length < sizeLine) (k : ∀ H', Kp a H H' → H' a = some (.dK (putK kvs (.inr s) v)) → NX D σ H') : DpE D σ v (.ref a) (.str s) H :=
  ⟨a, _, rfl, .inl ⟨kvs, .inr s, h, rfl, l, rfl⟩, k _ kp_upd upd_same⟩
theorem w_dnew {σ : L2.St} {H : Hp} {Q : VK} (k : ∀ p H', H p = none → Sm H H' → H' p = some (.dK []) → Q (.ref p) H') : tDNewK σ H Q := fun p hp => k p _ hp (sm_new hp) upd_same
def NiE (K : PySem.W.Frag) (w : World) (Q : VK) (y x : V) (H2 : Hp) : Prop := ∃ a z v, x = .ref a ∧ y = .str z ∧ (a == sysModules) = false ∧ KDct K w a z v ∧ Q (.bl false) H2
theorem w_ni {K : PySem.W.Frag} {w : World} {ty td : TE} {σ : L2.St} {H : Hp} {Q : VK} (k : ty σ H fun y H1 => td σ H1 fun x H2 => NiE K w Q y x H2) : tNiK K w ty td σ H Q := k
theorem w_nie {K : PySem.W.Frag} {w : World} {Q : VK} {H : Hp} {a : Addr} {z : Str} {ks : List Str} (d : KDs K w a ks) (hz : z ∈ ks) (k : Q (.bl false) H) : NiE K w Q (.str z) (.ref a) H := by
  obtain ⟨v, hv⟩ := d.2 z hz
  exact ⟨a, z, v, rfl, rfl, d.1, hv, k⟩
/-! an own object made -/
def MkE (C : Addr) (sp : Sp) (Q : VK) (E : XK) (vs : List V) (H1 : Hp) : Prop := ∀ x dx, H1 x = none → H1 dx = none → dx ≠ x → sp (.ref x :: (vs ++ [])) (upd (upd H1 dx (.own x)) x (.ins C dx [])) (fun v H2 => v = .non ∧ Q (.ref x) H2) E
theorem w_make {C : Addr} {sp : Sp} {σ : L2.St} {H : Hp} {Q : VK} {E : XK} {t : TA} (k : t σ H fun vs H1 => MkE C sp Q E vs H1) : tMake C sp [] E t σ H Q := k
/-! the last of a list taken, lists made longer -/
theorem w_bm0 {K : PySem.W.Frag} {T : String} {r : V → List V → Hp → VK → Prop} {to : TE} {σ : L2.St} {H : Hp} {Q : VK} (k : to σ H fun x H1 => tyV K T x H1 ∧ r x [] H1 Q) : tBM0 K T r to σ H Q := k
theorem w_pop {K : PySem.W.Frag} {H : Hp} {Q : VK} {l : Addr} {xs : List V} {y : V} (h : H l = some (.lst (xs ++ [y]))) (k : ∀ H', Kp l H H' → H' l = some (.lst xs) → Q y H') : tyV K "list" (.ref l) H ∧ rPop (.ref l) [] H Q := by
  refine ⟨ty_list h, l, _, y, rfl, rfl, h, ?_, k _ kp_upd ?_⟩
  · rw [List.length_append, List.getElem?_append_right (by show xs.length ≤ xs.length + 1 - 1; omega)]
    show [y][xs.length + 1 - 1 - xs.length]? = some y
    rw [show xs.length + 1 - 1 - xs.length = 0 by omega]
    rfl
  · rw [upd_same, List.dropLast_concat]
theorem w_ext {H : Hp} {Q : VK} {l b : Addr} {xs zs : List V} (h : H l = some (.lst xs)) (hb : H b = some (.lst zs)) (z : xs.length + zs.length ≤ sizeLine) (k : ∀ H', Kp l H H' → H' l = some (.lst (xs ++ zs)) → Q .non H') : rExtend (.ref l) [.ref b] H Q :=
  ⟨l, b, xs, zs, rfl, rfl, h, hb, z, k _ kp_upd upd_same⟩
local macro_rules | `(tactic| tm_at "rs") => `(tactic| first | with_reducible refine w_fld ?_ | with_reducible refine w_sfld ?_ | with_reducible refine w_dg ?_ | ((with_reducible refine' w_dge ?h ?e ?k); (case h => tm_at "rlk"); (case e => assumption)) | with_reducible refine w_dp ?_ | ((with_reducible refine' w_dpe ?h ?l (fun _ _ _ => ?k)); (case h => tm_at "rlk"); (case l => tm_at "rsz")) | with_reducible refine w_dnew (fun _ _ _ _ _ => ?_) | with_reducible refine w_ni ?_ | with_reducible refine w_make ?_ | with_reducible refine w_bm0 ?_ | ((with_reducible refine' w_pop ?h (fun _ _ _ => ?k)); (case h => tm_at "rlk")) | ((with_reducible refine' w_ext ?h ?i ?z (fun _ _ _ => ?k)); (case h => tm_at "rlk"); (case i => tm_at "rlk"); (case z => tm_at "rsz")) | fail "no")

/-! bits of ints that are not negative -/
theorem and_nn {a b : Nat} : Builtin.bitAnd (a : Int) (b : Int) = ((a &&& b : Nat) : Int) := by
  have h := bitAnd_pp (Int.natCast_nonneg a) (Int.natCast_nonneg b)
  rw [Int.toNat_natCast, Int.toNat_natCast] at h
  exact h
theorem and_one {i : Int} (h : 0 ≤ i) : Builtin.bitAnd i 1 = i % 2 := by
  obtain ⟨n, rfl⟩ := Int.eq_ofNat_of_zero_le h
  have e := @and_nn n 1
  rw [show ((1 : Nat) : Int) = 1 from rfl] at e
  rw [e, Nat.and_one_is_mod]
  omega

/-! bits of a number: how many, which -/
theorem and_mod2 {a b : Nat} (h : b % 2 = 0) : (a &&& b) % 2 = 0 := by
  have e : (a &&& b).testBit 0 = (a.testBit 0 && b.testBit 0) := Nat.testBit_and ..
  rw [Nat.testBit_zero, Nat.testBit_zero, Nat.testBit_zero] at e
  rw [decide_eq_false (show ¬ b % 2 = 1 by omega), Bool.and_false] at e
  have := of_decide_eq_false e
  omega
def pc : Nat → Nat
  | 0 => 0
  | n + 1 => (n + 1) % 2 + pc ((n + 1) / 2)
termination_by n => n
decreasing_by omega
theorem pc_eq (n : Nat) : pc n = n % 2 + pc (n / 2) := by
  cases n with
  | zero => rw [pc]
  | succ n => rw [pc]
theorem pc_and (n : Nat) (h : 0 < n) : pc (n &&& (n - 1)) + 1 = pc n := by
  induction n using Nat.strongRecOn with
  | ind n ih =>
    have hd : (n &&& (n - 1)) / 2 = n / 2 &&& (n - 1) / 2 := Nat.and_div_two
    by_cases ho : n % 2 = 1
    · rw [pc_eq (n &&& (n - 1)), pc_eq n, and_mod2 (show (n - 1) % 2 = 0 by omega), hd, show (n - 1) / 2 = n / 2 by omega, Nat.and_self, ho]
      omega
    · have hm : (n &&& (n - 1)) % 2 = 0 := by rw [Nat.and_comm]; exact and_mod2 (by omega)
      have := ih (n / 2) (by omega) (by omega)
      rw [pc_eq (n &&& (n - 1)), pc_eq n, hm, hd, show (n - 1) / 2 = n / 2 - 1 by omega]
      omega
def bpos (n i : Nat) : List Nat := (List.range i).filter n.testBit
theorem bpos_succ (n i : Nat) : bpos n (i + 1) = (if n % 2 = 1 then [0] else []) ++ (bpos (n / 2) i).map Nat.succ := by
  unfold bpos
  rw [List.range_succ_eq_map, List.filter_cons, List.filter_map, Nat.testBit_zero]
  have e : (fun t => n.testBit t) ∘ Nat.succ = (n / 2).testBit := by
    funext t
    show n.testBit (t + 1) = _
    rw [Nat.testBit_succ]
  rw [show (n.testBit ∘ Nat.succ) = (n / 2).testBit from e]
  by_cases h : n % 2 = 1
  · rw [if_pos h, if_pos (decide_eq_true h)]; rfl
  · rw [if_neg h, if_neg (by rw [decide_eq_false h]; decide)]; rfl
theorem bpos_len : ∀ (i n : Nat), n < 2 ^ i → (bpos n i).length = pc n
  | 0, n, h => by
    rw [Nat.pow_zero] at h
    rw [show n = 0 by omega, pc]; rfl
  | i + 1, n, h => by
    rw [Nat.pow_succ] at h
    rw [bpos_succ, List.length_append, List.length_map, bpos_len i (n / 2) (by omega), pc_eq n]
    by_cases h : n % 2 = 1
    · rw [if_pos h, h]; rfl
    · rw [if_neg h, show n % 2 = 0 by omega]; rfl
def psm (l : List Nat) : Nat := (l.map fun t => 2 ^ t).sum
theorem psm_succ : ∀ l : List Nat, psm (l.map Nat.succ) = 2 * psm l
  | [] => rfl
  | x :: l => by
    have h := psm_succ l
    unfold psm at h ⊢
    rw [List.map_cons, List.map_cons, List.map_cons, List.sum_cons, List.sum_cons, h, Nat.mul_add]
    show 2 ^ (x + 1) + _ = _
    rw [Nat.pow_succ, Nat.mul_comm]
theorem bpos_sum : ∀ (i n : Nat), n < 2 ^ i → psm (bpos n i) = n
  | 0, n, h => by
    rw [Nat.pow_zero] at h
    rw [show n = 0 by omega]; rfl
  | i + 1, n, h => by
    rw [Nat.pow_succ] at h
    have e : psm (bpos n (i + 1)) = (if n % 2 = 1 then 1 else 0) + psm ((bpos (n / 2) i).map Nat.succ) := by
      rw [bpos_succ]
      unfold psm
      rw [List.map_append, List.sum_append]
      congr 1
      by_cases h : n % 2 = 1
      · rw [if_pos h, if_pos h]; rfl
      · rw [if_neg h, if_neg h]; rfl
    rw [e, psm_succ, bpos_sum i (n / 2) (by omega)]
    by_cases h : n % 2 = 1
    · rw [if_pos h]; omega
    · rw [if_neg h]; omega
theorem bpos_step (n i : Nat) : bpos n (i + 1) = bpos n i ++ (if n / 2 ^ i % 2 = 1 then [i] else []) := by
  unfold bpos
  rw [List.range_succ, List.filter_append, List.filter_cons]
  congr 1
  have e : n.testBit i = decide (n / 2 ^ i % 2 = 1) := Nat.testBit_eq_decide_div_mod_eq
  rw [e]
  by_cases h : n / 2 ^ i % 2 = 1
  · rw [if_pos h, if_pos (decide_eq_true h)]; rfl
  · rw [if_neg h, if_neg (by rw [decide_eq_false h]; decide)]; rfl

/-! choosing numbers -/
def ch : Nat → Nat → Nat
  | _, 0 => 1
  | 0, _ + 1 => 0
  | n + 1, k + 1 => ch n k + ch n (k + 1)
theorem ch_zero (n : Nat) : ch n 0 = 1 := by cases n <;> rfl
theorem ch_succ (n k : Nat) : ch (n + 1) (k + 1) = ch n k + ch n (k + 1) := rfl
theorem ch_gt : ∀ (n k : Nat), n < k → ch n k = 0
  | 0, k + 1, _ => rfl
  | n + 1, k + 1, h => by rw [ch_succ, ch_gt n k (by omega), ch_gt n (k + 1) (by omega)]
theorem ch_self : ∀ n : Nat, ch n n = 1
  | 0 => rfl
  | n + 1 => by rw [ch_succ, ch_self n, ch_gt n (n + 1) (by omega)]
/-- (k + 1) C(n + 1, k + 1) = (n + 1) C(n, k) -/
theorem ch_mul : ∀ (n k : Nat), (k + 1) * ch (n + 1) (k + 1) = (n + 1) * ch n k
  | 0, 0 => rfl
  | 0, k + 1 => by rw [ch_succ, show ch 0 (k + 1) = 0 from rfl, show ch 0 (k + 1 + 1) = 0 from rfl]; omega
  | n + 1, 0 => by
    have h := ch_mul n 0
    rw [ch_zero] at h
    rw [ch_succ (n + 1) 0, ch_zero]
    omega
  | n + 1, k + 1 => by
    have h1 := ch_mul n k
    have h2 := ch_mul n (k + 1)
    have e1 := ch_succ (n + 1) (k + 1)
    have e2 := ch_succ n k
    rw [e1, Nat.mul_add, h2, show (k + 1 + 1) * ch (n + 1) (k + 1) = (k + 1) * ch (n + 1) (k + 1) + ch (n + 1) (k + 1) by rw [Nat.add_mul (k + 1) 1, Nat.one_mul], h1]
    rw [show (n + 1 + 1) * ch (n + 1) (k + 1) = (n + 1) * ch (n + 1) (k + 1) + ch (n + 1) (k + 1) by rw [Nat.add_mul (n + 1) 1, Nat.one_mul], e2, Nat.mul_add]
    omega
/-- (k + 1) C(n, k + 1) = (n - k) C(n, k) -/
theorem ch_next {n k : Nat} (h : k ≤ n) : (k + 1) * ch n (k + 1) = (n - k) * ch n k := by
  have h1 := ch_mul n k
  rw [ch_succ, Nat.mul_add] at h1
  have h2 : (n + 1) * ch n k = (k + 1) * ch n k + (n - k) * ch n k := by
    rw [← Nat.add_mul]
    congr 1
    omega
  omega
theorem ch_symm : ∀ (n k : Nat), k ≤ n → ch n k = ch n (n - k)
  | 0, 0, _ => rfl
  | n + 1, 0, _ => by rw [ch_zero, Nat.sub_zero, ch_self]
  | n + 1, k + 1, h => by
    by_cases hk : k = n
    · subst hk
      rw [ch_self, Nat.sub_self, ch_zero]
    · have e : n + 1 - (k + 1) = (n - (k + 1)) + 1 := by omega
      rw [e, ch_succ, ch_succ, ch_symm n k (by omega), ch_symm n (k + 1) (by omega), show n - k = n - (k + 1) + 1 by omega]
      omega
theorem ch_pos : ∀ (n k : Nat), k ≤ n → 0 < ch n k
  | _, 0, _ => by rw [ch_zero]; decide
  | n + 1, k + 1, h => by rw [ch_succ]; have := ch_pos n k (by omega); omega
/-- the product of j numbers from n down -/
def desc (n : Nat) : Nat → Nat
  | 0 => 1
  | j + 1 => desc n j * (n - j)
def fac : Nat → Nat
  | 0 => 1
  | j + 1 => fac j * (j + 1)
theorem fac_pos : ∀ j, 0 < fac j
  | 0 => by decide
  | j + 1 => Nat.mul_pos (fac_pos j) (by omega)
theorem fac_mono {i j : Nat} (h : i ≤ j) : fac i ≤ fac j := by
  induction h with
  | refl => exact Nat.le_refl _
  | step h ih => exact Nat.le_trans ih (Nat.le_mul_of_pos_right _ (by omega))
theorem desc_ch (n : Nat) : ∀ j, j ≤ n → desc n j = ch n j * fac j
  | 0, _ => by rw [ch_zero]; rfl
  | j + 1, h => by
    show desc n j * (n - j) = ch n (j + 1) * (fac j * (j + 1))
    rw [desc_ch n j (by omega)]
    have h1 := ch_next (n := n) (k := j) (by omega)
    rw [Nat.mul_right_comm, Nat.mul_comm (ch n j) (n - j), ← h1, Nat.mul_comm (j + 1) (ch n (j + 1)), Nat.mul_assoc, Nat.mul_comm (j + 1) (fac j)]
theorem ch_div (n j : Nat) (h : j ≤ n) : desc n j / fac j = ch n j := by
  rw [desc_ch n j h]
  exact Nat.mul_div_cancel _ (fac_pos j)
theorem fac_1000 : fac 1000 < 2 ^ 8600 := by decide +kernel
/-- rows added up -/
def prow : Nat → List Int
  | 0 => [1]
  | t + 1 => [1] ++ List.zipWith (· + ·) (prow t) (prow t).tail ++ [1]
theorem prow_len : ∀ t, (prow t).length = t + 1
  | 0 => rfl
  | t + 1 => by
    show ([1] ++ List.zipWith (· + ·) (prow t) (prow t).tail ++ [1]).length = _
    rw [List.length_append, List.length_append, List.length_zipWith, List.length_tail, prow_len t]
    simp [Nat.add_comm]
theorem prow_get : ∀ (t k : Nat), k ≤ t → (prow t)[k]? = some (ch t k : Int)
  | 0, 0, _ => rfl
  | t + 1, k, h => by
    show ([1] ++ List.zipWith (· + ·) (prow t) (prow t).tail ++ [1])[k]? = _
    have hl : (List.zipWith (· + ·) (prow t) (prow t).tail).length = t := by
      rw [List.length_zipWith, List.length_tail, prow_len]; omega
    cases k with
    | zero => rw [ch_zero]; rfl
    | succ k =>
      rw [List.append_assoc, List.cons_append, List.nil_append, List.getElem?_cons_succ]
      by_cases hk : k = t
      · rw [hk]
        rw [List.getElem?_append_right (by omega), hl, Nat.sub_self, ch_self]
        rfl
      · rw [List.getElem?_append_left (by omega), List.getElem?_zipWith, List.getElem?_tail, prow_get t k (by omega), prow_get t (k + 1) (by omega), ch_succ]
        rfl
theorem prow_zip {t k : Nat} (h : k < t) : (List.zipWith (· + ·) (prow t) (prow t).tail)[k]? = some (ch t k + ch t (k + 1) : Int) := by
  rw [List.getElem?_zipWith, List.getElem?_tail, prow_get t k (by omega), prow_get t (k + 1) (by omega)]

/-! figures of a power -/
/-- (u + 1) ^ n is the sum of the choosing numbers as figures in base u -/
def psum (u n : Nat) : Nat → Nat
  | 0 => 0
  | k + 1 => psum u n k + ch n k * u ^ k
theorem psum_succ (u n : Nat) : ∀ k, psum u (n + 1) (k + 1) = psum u n (k + 1) + u * psum u n k
  | 0 => by
    show 0 + ch (n + 1) 0 * u ^ 0 = (0 + ch n 0 * u ^ 0) + u * 0
    rw [ch_zero, ch_zero, Nat.mul_zero, Nat.add_zero]
  | k + 1 => by
    have ih := psum_succ u n k
    show psum u (n + 1) (k + 1) + ch (n + 1) (k + 1) * u ^ (k + 1) = (psum u n (k + 1) + ch n (k + 1) * u ^ (k + 1)) + u * (psum u n k + ch n k * u ^ k)
    rw [ih, ch_succ, Nat.add_mul, Nat.mul_add, Nat.pow_succ, ← Nat.mul_assoc u (ch n k), Nat.mul_comm u (ch n k), Nat.mul_assoc (ch n k) u, Nat.mul_comm u (u ^ k)]
    omega
theorem psum_top (u n : Nat) : ∀ k, n < k → psum u n k = psum u n (n + 1)
  | k + 1, h => by
    by_cases e : k = n
    · rw [e]
    · show psum u n k + ch n k * u ^ k = _
      rw [ch_gt n k (by omega), Nat.zero_mul, Nat.add_zero, psum_top u n k (by omega)]
theorem psum_pow (u : Nat) : ∀ n, psum u n (n + 1) = (u + 1) ^ n
  | 0 => by show 0 + ch 0 0 * u ^ 0 = 1; rw [ch_zero]; rfl
  | n + 1 => by
    rw [psum_succ, psum_top u n (n + 1 + 1) (by omega), psum_pow u n, Nat.pow_succ, Nat.mul_add, Nat.mul_one, Nat.mul_comm u]
    omega
theorem ch_le : ∀ n k : Nat, ch n k ≤ 2 ^ n
  | _, 0 => by rw [ch_zero]; exact Nat.two_pow_pos _
  | 0, k + 1 => by show 0 ≤ _; exact Nat.zero_le _
  | n + 1, k + 1 => by
    rw [ch_succ, Nat.pow_succ]
    have h1 := ch_le n k
    have h2 := ch_le n (k + 1)
    omega
theorem psum_lt {u n : Nat} (h : 2 ^ n < u) : ∀ k, psum u n k < u ^ k
  | 0 => by show 0 < 1; decide
  | k + 1 => by
    show psum u n k + ch n k * u ^ k < u ^ (k + 1)
    have h1 := psum_lt h k
    have h2 := ch_le n k
    rw [Nat.pow_succ]
    have h3 : (ch n k + 1) * u ^ k ≤ u * u ^ k := Nat.mul_le_mul_right _ (by omega)
    rw [Nat.add_mul, Nat.one_mul] at h3
    rw [Nat.mul_comm (u ^ k) u]
    omega
theorem psum_split {u n : Nat} (h0 : 0 < u) : ∀ m k, k ≤ m → ∃ r, psum u n m = psum u n k + u ^ k * r ∧ (k < m → r % u = ch n k % u)
  | m, k, hk => by
    induction m with
    | zero =>
      have : k = 0 := by omega
      subst this
      exact ⟨0, by rw [Nat.mul_zero]; rfl, fun h => by omega⟩
    | succ m ih =>
      by_cases e : k = m + 1
      · subst e
        exact ⟨0, by rw [Nat.mul_zero]; rfl, fun h => by omega⟩
      · obtain ⟨r, h1, h2⟩ := ih (by omega)
        by_cases e2 : k = m
        · subst e2
          refine ⟨r + ch n k, ?_, fun _ => ?_⟩
          · show psum u n k + ch n k * u ^ k = _
            have h3 : u ^ k * r = 0 := by omega
            rw [Nat.mul_add, h3, Nat.zero_add, Nat.mul_comm]
          · have h3 : u ^ k * r = 0 := by omega
            have h4 : r = 0 := by
              rcases Nat.mul_eq_zero.mp h3 with z | z
              · exact absurd z (Nat.ne_of_gt (Nat.pow_pos h0))
              · exact z
            rw [h4, Nat.zero_add]
        · refine ⟨r + u ^ (m - k) * ch n m, ?_, fun _ => ?_⟩
          · show psum u n m + ch n m * u ^ m = _
            rw [h1, Nat.mul_add, ← Nat.mul_assoc, ← Nat.pow_add, show k + (m - k) = m by omega, Nat.mul_comm (ch n m)]
            omega
          · rw [show m - k = (m - k - 1) + 1 by omega, Nat.pow_succ, Nat.mul_comm (u ^ (m - k - 1)) u, Nat.mul_assoc, Nat.add_mul_mod_self_left]
            exact h2 (by omega)
/-- figure k of (u + 1) ^ n in base u is the choosing number -/
theorem fig_pow {u n : Nat} (h : 2 ^ n < u) (k : Nat) : (u + 1) ^ n / u ^ k % u = ch n k := by
  have hl := ch_le n k
  have h0 : 0 < u := by omega
  have hs := psum_lt h k
  rw [← psum_pow u n, ← psum_top u n (n + 1 + k) (by omega)]
  obtain ⟨r, h1, h2⟩ := psum_split h0 (n := n) (n + 1 + k) k (by omega)
  rw [h1, Nat.add_mul_div_left _ _ (Nat.pow_pos h0), Nat.div_eq_of_lt hs, Nat.zero_add, h2 (by omega)]
  exact Nat.mod_eq_of_lt (by omega)

theorem psm_split (p : Nat → Bool) : ∀ l : List Nat, psm (l.filter p) + psm (l.filter fun t => !p t) = psm l
  | [] => rfl
  | x :: l => by
    have h := psm_split p l
    have c : ∀ (a : Nat) (k : List Nat), psm (a :: k) = 2 ^ a + psm k := fun a k => by
      unfold psm
      rw [List.map_cons, List.sum_cons]
    rw [List.filter_cons, List.filter_cons, c]
    cases p x
    · rw [if_neg (by decide : ¬ (false = true)), if_pos (by decide : (!false) = true), c]; omega
    · rw [if_pos (by decide : true = true), if_neg (by decide : ¬ ((!true) = true)), c]; omega
def lone (n m i : Nat) : List Nat := (bpos n i).filter fun t => !m.testBit t
theorem lone_xor (n m i : Nat) : lone n m i = bpos (n ^^^ (n &&& m)) i := by
  unfold lone bpos
  rw [List.filter_filter]
  congr 1
  funext t
  rw [Nat.testBit_xor, Nat.testBit_and]
  cases n.testBit t <;> cases m.testBit t <;> rfl
theorem w20 {n m i : Nat} (h : n < 2 ^ i) : psm (lone n m i) = n - (n &&& m) ∧ (lone n m i).length = pc (n - (n &&& m)) ∧ (n &&& m = n ↔ lone n m i = []) ∧ (n - (n &&& m)) &&& n = n - (n &&& m) := by
  have ha : n &&& m < 2 ^ i := Nat.lt_of_le_of_lt Nat.and_le_left h
  have hx : n ^^^ (n &&& m) < 2 ^ i := Nat.xor_lt_two_pow h ha
  have hr : psm (lone n m i) = n ^^^ (n &&& m) := by rw [lone_xor, bpos_sum i _ hx]
  have hs : psm ((bpos n i).filter m.testBit) = n &&& m := by
    have e : (bpos n i).filter m.testBit = bpos (n &&& m) i := by
      unfold bpos
      rw [List.filter_filter]
      congr 1
      funext t
      rw [Nat.testBit_and, Bool.and_comm]
    rw [e, bpos_sum i _ ha]
  have hp := psm_split m.testBit (bpos n i)
  rw [bpos_sum i n h, hs] at hp
  have hp2 : (n &&& m) + psm (lone n m i) = n := hp
  have hxr : n ^^^ (n &&& m) = n - (n &&& m) := by omega
  have hl : (lone n m i).length = pc (n - (n &&& m)) := by rw [← hxr, lone_xor, bpos_len i _ hx]
  refine ⟨by omega, hl, ⟨fun e => ?_, fun e => ?_⟩, ?_⟩
  · rw [e, Nat.sub_self, pc] at hl
    exact List.length_eq_zero_iff.mp hl
  · rw [e] at hp2
    have : psm [] = 0 := rfl
    omega
  · rw [← hxr]
    refine Nat.eq_of_testBit_eq fun t => ?_
    rw [Nat.testBit_and, Nat.testBit_xor, Nat.testBit_and]
    cases n.testBit t <;> cases m.testBit t <;> rfl
theorem valV_has {kvs : List (Key × V)} {k : Key} : (valV kvs k).isSome = true ↔ ∃ p ∈ kvs, p.1 = k := by
  unfold valV
  rw [Option.isSome_map, List.find?_isSome]
  constructor
  · rintro ⟨p, h, e⟩; exact ⟨p, h, of_decide_eq_true e⟩
  · rintro ⟨p, h, e⟩; exact ⟨p, h, decide_eq_true e⟩
theorem putK_has {kvs : List (Key × V)} {k0 k : Key} {v : V} : (∃ p ∈ putK kvs k0 v, p.1 = k) ↔ (k0 = k ∨ ∃ p ∈ kvs, p.1 = k) := by
  unfold putK
  split
  · rename_i h
    obtain ⟨q, hq, eq⟩ := List.any_eq_true.mp h
    have eq := of_decide_eq_true eq
    constructor
    · rintro ⟨p, hp, rfl⟩
      obtain ⟨r, hr, rfl⟩ := List.mem_map.mp hp
      refine .inr ⟨r, hr, ?_⟩
      split <;> rfl
    · rintro (rfl | ⟨p, hp, rfl⟩)
      · exact ⟨_, List.mem_map.mpr ⟨q, hq, rfl⟩, by rw [if_pos eq]; exact eq⟩
      · exact ⟨_, List.mem_map.mpr ⟨p, hp, rfl⟩, by split <;> rfl⟩
  · constructor
    · rintro ⟨p, hp, rfl⟩
      rcases List.mem_append.mp hp with hp | hp
      · exact .inr ⟨p, hp, rfl⟩
      · rw [List.mem_singleton.mp hp]; exact .inl rfl
    · rintro (rfl | ⟨p, hp, rfl⟩)
      · exact ⟨_, List.mem_append.mpr (.inr (List.mem_singleton.mpr rfl)), rfl⟩
      · exact ⟨p, List.mem_append.mpr (.inl hp), rfl⟩
theorem merge_has {k : Key} : ∀ (more kvs : List (Key × V)), (∃ p ∈ mergeK kvs more, p.1 = k) ↔ ((∃ p ∈ kvs, p.1 = k) ∨ ∃ p ∈ more, p.1 = k)
  | [], kvs => by
    show (∃ p ∈ kvs, p.1 = k) ↔ _
    simp
  | q :: more, kvs => by
    have h := merge_has (k := k) more (putK kvs q.1 q.2)
    show (∃ p ∈ mergeK (putK kvs q.1 q.2) more, p.1 = k) ↔ _
    rw [h, putK_has]
    simp only [List.mem_cons, exists_eq_or_imp]
    constructor
    · rintro ((e | e) | e)
      · exact .inr (.inl e)
      · exact .inl e
      · exact .inr (.inr e)
    · rintro (e | e | e)
      · exact .inl (.inr e)
      · exact .inl (.inl e)
      · exact .inr e
def bkv (l : List Nat) : List (Key × V) := l.map fun t => (Sum.inl ((t : Nat) : Int), V.bl true)
theorem bkv_has {m j t : Nat} (h : m < 2 ^ j) : (valV (mergeK [] (bkv (bpos m j))) (Sum.inl ((t : Nat) : Int))).isSome = m.testBit t := by
  have e : (valV (mergeK [] (bkv (bpos m j))) (Sum.inl ((t : Nat) : Int))).isSome = true ↔ m.testBit t = true := by
    rw [valV_has, merge_has]
    constructor
    · rintro (⟨p, hp, _⟩ | ⟨p, hp, e⟩)
      · cases hp
      · obtain ⟨s, hs, rfl⟩ := List.mem_map.mp hp
        have e : s = t := by have := Sum.inl.inj e; omega
        rw [← e]
        exact (List.mem_filter.mp hs).2
    · intro ht
      refine .inr ⟨_, List.mem_map.mpr ⟨t, List.mem_filter.mpr ⟨?_, ht⟩, rfl⟩, rfl⟩
      rw [List.mem_range]
      rcases Nat.lt_or_ge t j with q | q
      · exact q
      · have := Nat.testBit_lt_two_pow (Nat.lt_of_lt_of_le h (Nat.pow_le_pow_right (by decide) q))
        rw [this] at ht
        cases ht
  cases h1 : (valV (mergeK [] (bkv (bpos m j))) (Sum.inl ((t : Nat) : Int))).isSome <;> cases h2 : m.testBit t
  · rfl
  · rw [h1, h2] at e; have := e.mpr rfl; cases this
  · rw [h1, h2] at e; have := e.mp rfl; cases this
  · rfl
/-! a dict of pairs -/
def gDict (K : PySem.W.Frag) : List V → Hp → VK → Prop := (fun xs H Q => ∃ (a : Addr) (ps : List Addr) (kvs : List (Key × V)), xs = [.ref a] ∧ SqL K H a (ps.map V.ref) ∧ Paired (fun p kv => SqT K H p [kV kv.1, kv.2]) ps kvs ∧ ∀ p, H p = none → Q (.ref p) (upd H p (.dK (mergeK [] kvs))))
theorem call_gDict {X : Cx} {K : PySem.W.Frag} (hK : X.K = K) (hcalm : X.calm = true) : CallR X (.type "dict") (gDict K) := by subst hK; exact call_dictP hcalm
theorem w_gDict {K : PySem.W.Frag} {H : Hp} {Q : VK} {a : Addr} {ps : List Addr} {kvs : List (Key × V)} (h : SqL K H a (ps.map V.ref)) (hp : Paired (fun p kv => SqT K H p [kV kv.1, kv.2]) ps kvs) (k : ∀ p H', H p = none → Sm H H' → H' p = some (.dK (mergeK [] kvs)) → Q (.ref p) H') : gDict K [.ref a] H Q := ⟨a, ps, kvs, rfl, h, hp, fun p hn => k p _ hn (sm_new hn) upd_same⟩
def DNE (y x : V) (Q : VK) (H2 : Hp) : Prop := ∃ a o, x = .ref a ∧ DGet H2 a y o ∧ Q (.bl (!o.isSome)) H2
theorem w_dni {ty td : TE} {σ : L2.St} {H : Hp} {Q : VK} (k : ty σ H fun y H1 => td σ H1 fun x H2 => DNE y x Q H2) : tDNotIn ty td σ H Q := k
theorem w_dne {H : Hp} {Q : VK} {a : Addr} {i : Int} {kvs : List (Key × V)} (h : H a = some (.dK kvs)) (k : Q (.bl (!(valV kvs (.inl i)).isSome)) H) : DNE (.int i) (.ref a) Q H := ⟨a, _, rfl, .inl ⟨kvs, .inl i, .inl h, rfl, rfl⟩, k⟩
theorem u_one {n : Nat} (h : n + 64 < cLine) : n + 1 < cLine := by omega
theorem paired_imp {α β : Type} {F G : α → β → Prop} (h : ∀ p q, F p q → G p q) : ∀ {l : List α} {k : List β}, Paired F l k → Paired G l k
  | _, _, .nil => .nil
  | _, _, .cons a b => .cons (h _ _ a) (paired_imp h b)
theorem nat_at {l : List Nat} {i : Nat} {x : V} (h : (l.map fun t => V.int ((t : Nat) : Int))[i]? = some x) : ∃ t : Nat, l[i]? = some t ∧ x = V.int (t : Int) := by
  rw [List.getElem?_map] at h
  cases e : l[i]? with
  | none => rw [e] at h; cases h
  | some t => rw [e] at h; cases h; exact ⟨t, rfl, rfl⟩
theorem bkv_take {l : List Nat} {i t : Nat} (h : l[i]? = some t) : bkv (l.take (i + 1)) = bkv (l.take i) ++ [(Sum.inl ((t : Nat) : Int), V.bl true)] := by
  unfold bkv
  rw [List.take_succ, h, List.map_append]
  rfl
theorem w_eqNil {K : PySem.W.Frag} {H : Hp} {Q : VK} {a b : Addr} {l : List Nat} (h1 : SqL K H a (l.map fun t => V.int ((t : Nat) : Int))) (h2 : SqL K H b []) (k : Q (.bl (decide (l = []))) H) : gEq K (.ref a) (.ref b) H Q := by
  have e1 : (l.map fun t => V.int ((t : Nat) : Int)) = (l.map fun t : Nat => ((t : Nat) : Int)).map V.int := by rw [List.map_map]; rfl
  rw [e1] at h1
  refine .inr ⟨.list ((l.map fun t : Nat => ((t : Nat) : Int)).map .int), .list (([] : List Int).map .int), .lst h1 (dp_ints _), .lst h2 .nil, PySem.W.ke_shaped_ints _, PySem.W.ke_shaped_ints _, ?_⟩
  have e : PyData.eqv (.list ((l.map fun t : Nat => ((t : Nat) : Int)).map .int)) (.list (([] : List Int).map .int)) = decide (l = []) := by
    rw [PyData.eqv, PySem.W.ked_eqvAll]
    cases l with
    | nil => rfl
    | cons x l => rfl
  rw [e]
  exact k
theorem flt_take {p : Nat → Bool} {l : List Nat} {i t : Nat} (h : l[i]? = some t) : (l.take (i + 1)).filter p = (l.take i).filter p ++ (if p t = true then [t] else []) := by
  rw [List.take_succ, h, List.filter_append]
  congr 1
  show List.filter p [t] = _
  rw [List.filter_cons]
  cases p t <;> rfl
theorem psm_int : ∀ L : List Nat, (L.map fun t : Nat => ((2 ^ t : Nat) : Int)).sum = ((psm L : Nat) : Int)
  | [] => rfl
  | x :: L => by
    have h := psm_int L
    unfold psm at h ⊢
    rw [List.map_cons, List.map_cons, List.sum_cons, List.sum_cons, h, Int.natCast_add]
local macro_rules | `(tactic| tm_at "rs") => `(tactic| first | with_reducible refine w_dni ?_ | ((with_reducible refine' w_dne ?h ?k); (case h => tm_at "rlk")) | ((with_reducible refine' w_eqNil ?h ?i ?k); (case h => tm_at "rsq"); (case i => tm_at "rsq")) | fail "no")

/-! int(text) and str(int) beyond 640 figures, up to 4300 -/
theorem nsIn_none {K : PySem.W.Frag} {h : Heap} {a : Addr} {mc : Str → Option Value} {n : Str} (X : K.In h) (G : h.Ns a mc) (e : PySem.W.nsIn K a n = some none) : mc n = none := by
  obtain ⟨o, es, ep, ho, hd, _, hf⟩ := G
  unfold PySem.W.nsIn at e
  split at e
  · rename_i c d es' n' sl q
    have := X _ _ q
    rw [ho] at this
    cases this
    cases hd
    split at e
    · cases e
    · rename_i he
      rw [← hf]
      unfold nsFind findBy
      rw [← Array.find?_toList, he]
      rfl
  · cases e
/-- nothing has set how many figures a text may have -/
def NoDig (K : PySem.W.Frag) : Prop := PySem.W.nsIn K cStatics "sys.int_max_str_digits" = some none
theorem inv_nd {X : Cx} {pins : List (Addr × Obj)} {σ : L2.St} {H : Hp} {s : Shared} (I : Inv X pins σ H s) (z : NoDig X.K) : s.heap.NoDigits := by
  obtain ⟨mc, a, _⟩ := I.nolimit
  exact ⟨mc, a, nsIn_none I.kIn a z⟩
theorem wp_textB {M : Model} {A : Around} {E : Value → Shared → Prop} {s : Shared} {Q : Value → Shared → Prop} {v : Value} {text : List Nat} {n : Int}
    (hs : ¬ (text.takeWhile (· != 0)).length ≤ 640) (hr : (int_private% "readNumeral") 4300 10 (text.takeWhile (· != 0)) = (int_private% "Numeral.value") n)
    (ha : ((text.takeWhile (· != 0)).length == text.length) = true) (nd : s.heap.NoDigits) (h : Q (.int n s.toks) { s with toks := s.toks + 1 }) :
    wpAny M A ((int_private% "intFromText") v text 10) Q E s := by
  obtain ⟨mc, hns, hnone⟩ := nd
  have hlim : ∀ {Q : Nat → Shared → Prop}, Q 4300 s → wpAny M A Builtin.intMaxStrDigits Q E s := fun q => by
    unfold Builtin.intMaxStrDigits
    refine wpAny_bind (wpAny_nsGet hns ?_)
    rw [hnone]
    exact wpAny_pure q
  clear hns hnone
  obtain ⟨hp, g, d, tk, os⟩ := s
  repeat (any_goals (first
    | assumption
    | (with_reducible refine wpAny_ite_false (decide_eq_false hs) ?_)
    | (with_reducible refine wpAny_ite_true (decide_eq_true ha) ?_)
    | (with_reducible refine hlim ?_)
    | wp_step))
  all_goals (try rw [hr])
  all_goals (try dsimp only)
  repeat (any_goals (first
    | assumption
    | (with_reducible refine wpAny_ite_false (decide_eq_false hs) ?_)
    | (with_reducible refine wpAny_ite_true (decide_eq_true ha) ?_)
    | wp_step))
structure HidI (p : Prop) : Prop where
  out : p
theorem int_big {x : PySem.Str} {u : Tok} {n : Int} (hl : x.length ≤ sizeLine) (hb : ¬ (numSeenOf x).length ≤ 640) (hn : PySem.intText? x = some n) {M : Model} {A : Around} {E : Value → Shared → Prop} {s : Shared} {Q : Value → Shared → Prop}
    (nd : s.heap.NoDigits) (h : Q (.int n s.toks) { s with toks := s.toks + 1 }) : wpAny M A (Builtin.«int.__new__» ⟨[.type "int", .str x u], []⟩) (fun fin s' => ∃ v, fin = .done (.ret v) ∧ Q v s') E s := by
  obtain ⟨hp, g, d, tk, os⟩ := s
  have f1 := F.conv_sub_int
  have f2 := F.madeHere_int
  have f3 := PySem.W.KIN.str_int
  have f4 := PySem.W.KIN.str_idx
  have f5 := PySem.W.KIN.str_trunc
  have f6 : typeOf (.str x u) = pure (.type "str") := rfl
  have hr : (int_private% "readNumeral") 4300 10 (numSeenOf x) = (int_private% "Numeral.value") n ∧ ((numSeenOf x).length == (numTextOf x).length) = true := by
    rcases read4300 x hl with ⟨m, h1, h2, h3⟩ | ⟨h1, _⟩
    · rw [hn] at h1
      injection h1 with h1
      subst h1
      exact ⟨h3, h2⟩
    · rw [hn] at h1
      cases h1
  have hk := HidI.mk (And.intro hb (And.intro hr nd))
  clear hr hl hn hb nd
  repeat (any_goals (first
    | assumption
    | ((with_reducible show wpAny _ _ ((int_private% "intFromText") _ _ _) _ _ _); refine wp_textB hk.out.1 hk.out.2.1.1 hk.out.2.1.2 hk.out.2.2 ?_)
    | wp_step))
  all_goals first | exact ⟨_, rfl, h⟩ | skip
theorem int_few {x : PySem.Str} {u : Tok} {n : Int} (hb : (numSeenOf x).length ≤ 640) (hn : PySem.intText? x = some n) {M : Model} {A : Around} {E : Value → Shared → Prop} {s : Shared} {Q : Value → Shared → Prop}
    (h : Q (.int n s.toks) { s with toks := s.toks + 1 }) : wpAny M A (Builtin.«int.__new__» ⟨[.type "int", .str x u], []⟩) (fun fin s' => ∃ v, fin = .done (.ret v) ∧ Q v s') E s := by
  obtain ⟨hp, g, d, tk, os⟩ := s
  have f1 := F.conv_sub_int
  have f2 := F.madeHere_int
  have f3 := PySem.W.KIN.str_int
  have f4 := PySem.W.KIN.str_idx
  have f5 := PySem.W.KIN.str_trunc
  have f6 : typeOf (.str x u) = pure (.type "str") := rfl
  have hr : (int_private% "readNumeral") 0 10 (numSeenOf x) = (int_private% "Numeral.value") n ∧ ((numSeenOf x).length == (numTextOf x).length) = true := by
    rcases read0 x hb with ⟨m, h1, h2, h3⟩ | ⟨h1, _⟩
    · rw [hn] at h1
      injection h1 with h1
      subst h1
      exact ⟨h3, h2⟩
    · rw [hn] at h1
      cases h1
  have hk := HidI.mk (And.intro hb hr)
  clear hr hn hb
  repeat (any_goals (first
    | assumption
    | ((with_reducible show wpAny _ _ ((int_private% "intFromText") _ _ _) _ _ _); refine PySem.W.KIN.wp_text hk.out.1 hk.out.2.1 hk.out.2.2 ?_)
    | wp_step))
  all_goals first | exact ⟨_, rfl, h⟩ | skip
theorem call_textB {prog : Program} {w : World} {A : Around} {E : Value → Shared → Prop} {s : Shared} {x : PySem.Str} {t : Tok} {n : Int} {Q : Value → Shared → Prop} (hl : x.length ≤ sizeLine) (hn : PySem.intText? x = some n) (nd : s.heap.NoDigits)
    (h : Q (.int n s.toks) { s with toks := s.toks + 1 }) : wpAny (model prog w) A (call (.type "int") [.str x t]) Q E s := by
  by_cases hb : (numSeenOf x).length ≤ 640
  · exact call_int_1 (S := fun A R s => R (.ok (.ret (.int n s.toks))) { s with toks := s.toks + 1 }) (fun prog w A R s hq => wpAny_mono (int_few (Q := fun v s' => R (.ok (.ret v)) s') hb hn hq) (fun fin s' h' => by obtain ⟨v, rfl, hv⟩ := h'; exact hv) fun _ _ x => x) ⟨typeIs_int _ _ _, h⟩
  · exact call_int_1 (S := fun A R s => s.heap.NoDigits ∧ R (.ok (.ret (.int n s.toks))) { s with toks := s.toks + 1 }) (fun prog w A R s hq => wpAny_mono (int_big (Q := fun v s' => R (.ok (.ret v)) s') hl hb hn hq.1 hq.2) (fun fin s' h' => by obtain ⟨v, rfl, hv⟩ := h'; exact hv) fun _ _ x => x) ⟨nd, typeIs_int _ _ _, h⟩
def gStrI : List V → Hp → VK → Prop := fun xs H Q => ∃ i : Int, xs = [.int i] ∧ i.natAbs < 10 ^ 4300 ∧ Q (.str (toString i)) H
theorem w_strInt {i : Int} {H : Hp} {Q : VK} (h : i.natAbs < 10 ^ 4300) (k : Q (.str (toString i)) H) : gStrI [.int i] H Q := ⟨i, rfl, h, k⟩
def gIntT : List V → Hp → VK → Prop := fun xs H Q => ∃ a n, xs = [.str a] ∧ PySem.intText? a = some n ∧ a.length ≤ sizeLine ∧ Q (.int n) H
theorem w_intText {a : Str} {n : Int} {H : Hp} {Q : VK} (h : PySem.intText? a = some n) (hl : a.length ≤ sizeLine) (k : Q (.int n) H) : gIntT [.str a] H Q := ⟨a, n, rfl, h, hl, k⟩
section
variable {X : Cx}
theorem call_intText (z : NoDig X.K) : CallR X (.type "int") gIntT := by
  intro pins s σ H xs us Q I rs h
  obtain ⟨a, n, rfl, hn, hl, h⟩ := h
  cases rs with
  | cons r1 rs =>
    cases rs
    obtain ⟨t, rfl⟩ := r1
    exact call_textB hl hn (inv_nd I z) ⟨.int n, H, I.tok _, ⟨_, rfl⟩, h⟩
theorem call_strInt (z : NoDig X.K) (hc : X.calm = true) : CallR X (.type "str") gStrI := by
  intro pins s σ H xs us Q I r h
  obtain ⟨i, rfl, hz, q⟩ := h
  obtain ⟨u, rfl, t, rfl⟩ := vals1 r
  exact str_of_int_or (I.ok.hd hc) (inv_nd I z) (fun _ => ⟨.str _, H, I.tok _, ⟨_, rfl⟩, q⟩) (fun hge => absurd hz (Nat.not_lt.mpr hge))
end

/-! int(text, 2) of noughts and ones -/
def Bit2 (c : Nat) : Prop := c = 48 ∨ c = 49
def num2 (l : List Nat) : Nat := l.foldl (fun a c => a * 2 + (c - 48)) 0
theorem b2_hex {c : Nat} (h : Bit2 c) : L2.Hx.IsHex c := .inl (by rcases h with rfl | rfl <;> decide)
theorem b2_step {ds : Array Nat} {b : Bool} {c : Nat} (h : Bit2 c) : PySem.NumText.step 2 (ds, b) c = some (ds.push (c - 48), true) := by
  rcases h with rfl | rfl <;> rfl
theorem b2_fold : ∀ (l : List Nat) (ds : Array Nat), (∀ c ∈ l, Bit2 c) → l.foldlM (PySem.NumText.step 2) (ds, true) = some (l.foldl (fun a c => a.push (c - 48)) ds, true)
  | [], _, _ => rfl
  | c :: l, ds, h => by
    rw [List.foldlM_cons, b2_step (h c List.mem_cons_self)]
    exact b2_fold l (ds.push (c - 48)) fun x hx => h x (List.mem_cons_of_mem _ hx)
theorem b2_digits {l : List Nat} (h : ∀ c ∈ l, Bit2 c) (ne : l ≠ []) : digits? 2 l = some (l.foldl (fun a c => a.push (c - 48)) #[]) := by
  cases l with
  | nil => exact (ne rfl).elim
  | cons c l =>
    unfold digits?
    rw [List.foldlM_cons, b2_step (h c List.mem_cons_self)]
    show ((l.foldlM (PySem.NumText.step 2) (Array.push #[] (c - 48), true)).bind _) = _
    rw [b2_fold l _ fun x hx => h x (List.mem_cons_of_mem _ hx)]
    rfl
theorem b2_push : ∀ (l : List Nat) (ds : Array Nat), (l.foldl (fun a c => a.push (c - 48)) ds).foldl (fun a d => a * 2 + d) 0 = l.foldl (fun a c => a * 2 + (c - 48)) (ds.foldl (fun a d => a * 2 + d) 0)
  | [], _ => rfl
  | c :: l, ds => by
    rw [List.foldl_cons, List.foldl_cons, b2_push l (ds.push (c - 48)), Array.foldl_push]
theorem b2_based {l : List Nat} (h : ∀ c ∈ l, Bit2 c) : based 2 l = (2, false, l) := by
  match l, h with
  | [], _ => rfl
  | [a], h => rcases h a List.mem_cons_self with rfl | rfl <;> rfl
  | a :: c :: r, h =>
    have h2 := h c (List.mem_cons_of_mem _ List.mem_cons_self)
    rcases h a List.mem_cons_self with rfl | rfl <;> rcases h2 with rfl | rfl <;> rfl
theorem b2_read (m : Nat) {l : List Nat} (h : ∀ c ∈ l, Bit2 c) (ne : l ≠ []) : (int_private% "readNumeral") m 2 l = (int_private% "Numeral.value") ((num2 l : Nat) : Int) := by
  have hx : ∀ c ∈ l, L2.Hx.IsHex c := fun c hc => b2_hex (h c hc)
  have hb := b2_based h
  refine Eq.trans (readNumeral_eq m 2 l) ?_
  rw [L2.Hx.dropB hx, L2.Hx.signH hx]
  show judge m false (based 2 l).1 (based 2 l).2.1 (digits? (based 2 l).1 ((List.dropWhile blank (based 2 l).2.2.reverse).reverse)) = _
  rw [hb]
  show judge m false 2 false (digits? 2 ((List.dropWhile blank l.reverse).reverse)) = _
  rw [L2.Hx.dropB (cs := l.reverse) fun c hc => hx c (List.mem_reverse.mp hc), List.reverse_reverse, b2_digits h ne]
  have e : ∀ ds : Array Nat, judge m false 2 false (some ds) = (int_private% "Numeral.value") ((ds.foldl (fun a d => a * 2 + d) 0 : Nat) : Int) := fun ds => by
    unfold judge
    rfl
  rw [e, b2_push]
  rfl
theorem wp_text2 {M : Model} {A : Around} {E : Value → Shared → Prop} {s : Shared} {Q : Value → Shared → Prop} {v : Value} {text : List Nat} {n : Int}
    (hr : ∀ m : Nat, (int_private% "readNumeral") m 2 (text.takeWhile (· != 0)) = (int_private% "Numeral.value") n)
    (ha : ((text.takeWhile (· != 0)).length == text.length) = true) (nd : s.heap.NoDigits) (h : Q (.int n s.toks) { s with toks := s.toks + 1 }) :
    wpAny M A ((int_private% "intFromText") v text 2) Q E s := by
  obtain ⟨mc, hns, hnone⟩ := nd
  have hlim : ∀ {Q : Nat → Shared → Prop}, Q 4300 s → wpAny M A Builtin.intMaxStrDigits Q E s := fun q => by
    unfold Builtin.intMaxStrDigits
    refine wpAny_bind (wpAny_nsGet hns ?_)
    rw [hnone]
    exact wpAny_pure q
  clear hns hnone
  obtain ⟨hp, g, d, tk, os⟩ := s
  by_cases hs : (text.takeWhile (· != 0)).length ≤ 640
  · repeat (any_goals (first
      | assumption
      | (with_reducible refine wpAny_ite_true (decide_eq_true hs) ?_)
      | (with_reducible refine wpAny_ite_true (decide_eq_true ha) ?_)
      | wp_step))
    all_goals (try rw [hr])
    all_goals (try dsimp only)
    repeat (any_goals (first
      | assumption
      | (with_reducible refine wpAny_ite_true (decide_eq_true ha) ?_)
      | wp_step))
  · repeat (any_goals (first
      | assumption
      | (with_reducible refine wpAny_ite_false (decide_eq_false hs) ?_)
      | (with_reducible refine wpAny_ite_true (decide_eq_true ha) ?_)
      | (with_reducible refine hlim ?_)
      | wp_step))
    all_goals (try rw [hr])
    all_goals (try dsimp only)
    repeat (any_goals (first
      | assumption
      | (with_reducible refine wpAny_ite_true (decide_eq_true ha) ?_)
      | wp_step))
theorem int_two {x : PySem.Str} {u t : Tok} (hx : ∀ c ∈ x.cps.toList, Bit2 c) (ne : x.cps.toList ≠ []) {M : Model} {A : Around} {E : Value → Shared → Prop} {s : Shared} {Q : Value → Shared → Prop}
    (nd : s.heap.NoDigits) (h : Q (.int ((num2 x.cps.toList : Nat) : Int) s.toks) { s with toks := s.toks + 1 }) : wpAny M A (Builtin.«int.__new__» ⟨[.type "int", .str x u, .int 2 t], []⟩) (fun fin s' => ∃ v, fin = .done (.ret v) ∧ Q v s') E s := by
  obtain ⟨hp, g, d, tk, os⟩ := s
  have f1 := F.conv_sub_int
  have f2 := F.madeHere_int
  have f6 : typeOf (.str x u) = pure (.type "str") := rfl
  obtain ⟨e1, e2⟩ := L2.Hx.seen_hex (x := x) fun c hc => b2_hex (hx c hc)
  have hr : ∀ m : Nat, (int_private% "readNumeral") m 2 (numSeenOf x) = (int_private% "Numeral.value") ((num2 x.cps.toList : Nat) : Int) := fun m => by
    rw [e2]
    exact b2_read m hx ne
  have ha : ((numSeenOf x).length == (numTextOf x).length) = true := by
    rw [e1, e2]
    exact beq_self_eq_true _
  have hk := HidI.mk (And.intro hr (And.intro ha nd))
  clear hr ha e1 e2 ne hx nd
  repeat (any_goals (first
    | assumption
    | ((with_reducible show wpAny _ _ ((int_private% "intFromText") _ _ _) _ _ _); refine wp_text2 hk.out.1 hk.out.2.1 hk.out.2.2 ?_)
    | wp_step))
  all_goals first | exact ⟨_, rfl, h⟩ | skip
def gIntT2 : List V → Hp → VK → Prop := fun xs H Q => ∃ a, xs = [.str a, .int 2] ∧ a.cps.toList ≠ [] ∧ (∀ c ∈ a.cps.toList, Bit2 c) ∧ Q (.int ((num2 a.cps.toList : Nat) : Int)) H
theorem call_two {prog : Program} {w : World} {A : Around} {E : Value → Shared → Prop} {s : Shared} {x : PySem.Str} {u t : Tok} {Q : Value → Shared → Prop} (hx : ∀ c ∈ x.cps.toList, Bit2 c) (ne : x.cps.toList ≠ []) (nd : s.heap.NoDigits)
    (h : Q (.int ((num2 x.cps.toList : Nat) : Int) s.toks) { s with toks := s.toks + 1 }) : wpAny (model prog w) A (call (.type "int") [.str x u, .int 2 t]) Q E s :=
  callType_new (S := fun A R s => s.heap.NoDigits ∧ R (.ok (.ret (.int ((num2 x.cps.toList : Nat) : Int) s.toks))) { s with toks := s.toks + 1 }) F.called_int F.newNe_int (L2.Hx.typeCall_int_2 _ _) (L2.Hx.newCall_int_2 _ _)
    (fun obj => F.initArgs_range_2 obj _ _) F.entry_int_new (fun prog w A R s hq => wpAny_mono (int_two (Q := fun v s' => R (.ok (.ret v)) s') hx ne hq.1 hq.2) (fun fin s' h' => by obtain ⟨v, rfl, hv⟩ := h'; exact hv) fun _ _ x => x) ⟨nd, typeIs_int _ _ _, h⟩
section
variable {X : Cx}
theorem call_intText2 (z : NoDig X.K) : CallR X (.type "int") gIntT2 := by
  intro pins s σ H xs us Q I rs h
  obtain ⟨a, rfl, ne, hx, h⟩ := h
  obtain ⟨u1, u2, rfl, ⟨t1, rfl⟩, t2, rfl⟩ := vals2 rs
  exact call_two hx ne (inv_nd I z) ⟨.int _, H, I.tok _, ⟨_, rfl⟩, h⟩
end
theorem w_intText2 {a : Str} {H : Hp} {Q : VK} (ne : a.cps.toList ≠ []) (hx : ∀ c ∈ a.cps.toList, Bit2 c) (k : Q (.int ((num2 a.cps.toList : Nat) : Int)) H) : gIntT2 [.str a, .int 2] H Q := ⟨a, rfl, ne, hx, k⟩

/-! a number's bits as a text -/
def bl : Nat → List Nat
  | 0 => []
  | n + 1 => bl ((n + 1) / 2) ++ [48 + (n + 1) % 2]
termination_by n => n
decreasing_by omega
theorem bl_eq {n : Nat} (h : 0 < n) : bl n = bl (n / 2) ++ [48 + n % 2] := by
  cases n with
  | zero => omega
  | succ n => rw [bl]
theorem bl_zero : bl 0 = [] := by rw [bl]
theorem bl_len : ∀ (e n : Nat), n < 2 ^ e → (bl n).length ≤ e
  | 0, n, h => by
    rw [Nat.pow_zero] at h
    rw [show n = 0 by omega, bl_zero]
    exact Nat.le_refl _
  | e + 1, n, h => by
    rw [Nat.pow_succ] at h
    by_cases h0 : 0 < n
    · rw [bl_eq h0, List.length_append]
      have := bl_len e (n / 2) (by omega)
      show _ + 1 ≤ e + 1
      omega
    · rw [show n = 0 by omega, bl_zero]
      exact Nat.zero_le _
theorem bl_bit (n : Nat) : ∀ c ∈ bl n, Bit2 c := by
  induction n using Nat.strongRecOn with
  | ind n ih =>
    intro c hc
    by_cases h0 : 0 < n
    · rw [bl_eq h0] at hc
      rcases List.mem_append.mp hc with hc | hc
      · exact ih (n / 2) (by omega) c hc
      · rw [List.mem_singleton.mp hc]
        unfold Bit2
        omega
    · rw [show n = 0 by omega, bl_zero] at hc
      cases hc
theorem num2_snoc (l : List Nat) (c : Nat) : num2 (l ++ [c]) = num2 l * 2 + (c - 48) := by
  unfold num2
  rw [List.foldl_append]
  rfl
theorem num2_bl (n : Nat) : num2 (bl n) = n := by
  induction n using Nat.strongRecOn with
  | ind n ih =>
    by_cases h0 : 0 < n
    · rw [bl_eq h0, num2_snoc, ih (n / 2) (by omega)]
      omega
    · rw [show n = 0 by omega, bl_zero]
      rfl
def btl (n : Nat) : List Nat := if n = 0 then [48] else bl n
theorem btl_zero : btl 0 = [48] := if_pos rfl
theorem btl_pos {n : Nat} (h : 0 < n) : btl n = bl n := if_neg (by omega)
theorem bl_ne {n : Nat} (h : 0 < n) : bl n ≠ [] := by
  rw [bl_eq h]
  intro e
  have := congrArg List.length e
  rw [List.length_append] at this
  simp at this
theorem btl_ne (n : Nat) : btl n ≠ [] := by
  by_cases h : 0 < n
  · rw [btl_pos h]; exact bl_ne h
  · rw [show n = 0 by omega, btl_zero]; intro e; cases e
theorem btl_bit (n : Nat) : ∀ c ∈ btl n, Bit2 c := by
  by_cases h : 0 < n
  · rw [btl_pos h]; exact bl_bit n
  · rw [show n = 0 by omega, btl_zero]
    intro c hc
    exact .inl (List.mem_singleton.mp hc)
theorem btl_len {e n : Nat} (h : n < 2 ^ e) (he : 1 ≤ e) : (btl n).length ≤ e := by
  by_cases h0 : 0 < n
  · rw [btl_pos h0]; exact bl_len e n h
  · rw [show n = 0 by omega, btl_zero]; exact he
theorem num2_zeros (l : List Nat) : ∀ k : Nat, num2 (List.replicate k 48 ++ l) = num2 l
  | 0 => rfl
  | k + 1 => num2_zeros l k
theorem num2_btl (n : Nat) : num2 (btl n) = n := by
  by_cases h : 0 < n
  · rw [btl_pos h]; exact num2_bl n
  · rw [show n = 0 by omega, btl_zero]; rfl
theorem str_ext {a b : Str} (h : a.cps.toList = b.cps.toList) : a = b := by
  cases a
  cases b
  congr 1
  exact Array.toList_inj.mp h
def sg (c : Nat) : Str := ⟨#[c]⟩
theorem app_tl (a b : Str) : (a ++ b).cps.toList = a.cps.toList ++ b.cps.toList := Array.toList_append
theorem join_fold (e : Str) (he : e.cps = #[]) : ∀ (cs : List Nat) (a : Array Nat), ((cs.map sg).foldl (fun acc p => acc ++ e.cps ++ p.cps) a).toList = a.toList ++ cs
  | [], a => by simp
  | c :: cs, a => by
    rw [List.map_cons, List.foldl_cons, join_fold e he cs, he]
    simp [sg]
theorem join_sg (cs : List Nat) : (Txt.join (Str.ofString "") (cs.map sg)).cps.toList = cs := by
  cases cs with
  | nil => rfl
  | cons c cs => exact join_fold (Str.ofString "") rfl cs #[c]
theorem tos_bit {i : Int} (h : i = 0 ∨ i = 1) : ((toString i : String) : Str) = sg (48 + i.toNat) := by
  rcases h with rfl | rfl <;> rfl
/-! lists of texts -/
theorem dp_strs {K : PySem.W.Frag} {H : Hp} : ∀ ys : List Str, DpAll K H (ys.map V.str) (ys.map PyData.str)
  | [] => .nil
  | y :: ys => .cons (.str y) (dp_strs ys)
theorem lay_strs : ∀ ys : List Str, (∀ y ∈ ys, PyData.strOk y = true) → PyData.canLayAll0 (ys.map PyData.str) = true ∧ PyData.depthAll (ys.map PyData.str) = 0
  | [], _ => ⟨rfl, rfl⟩
  | y :: ys, h => by
    obtain ⟨h1, h2⟩ := lay_strs ys (fun z hz => h z (List.mem_cons_of_mem _ hz))
    have h3 := h y List.mem_cons_self
    exact ⟨by simp [PyData.canLayAll0, PyData.canLay0, h1, h3], by simp [PyData.depthAll, PyData.depth, h2]⟩
theorem shp_strs {ys : List Str} (h : ∀ y ∈ ys, PyData.strOk y = true) : SeqAt.shaped (.list (ys.map PyData.str)) = true := by
  obtain ⟨h1, h2⟩ := lay_strs ys h
  simp [SeqAt.shaped, PyData.canLay0, PyData.depth, h1, h2]
theorem sg_ok {cs : List Nat} (h : ∀ c ∈ cs, c < 1000) : ∀ y ∈ cs.map sg, PyData.strOk y = true := fun y hy => by
  obtain ⟨c, hc, rfl⟩ := List.mem_map.mp hy
  have := h c hc
  unfold PyData.strOk sg
  simp
  omega
theorem w_eqNilT {K : PySem.W.Frag} {H : Hp} {Q : VK} {a b : Addr} {ys : List Str} (h1 : SqL K H a (ys.map V.str)) (h2 : SqL K H b []) (ok : ∀ y ∈ ys, PyData.strOk y = true) (k : Q (.bl (decide (ys = []))) H) : gEq K (.ref a) (.ref b) H Q := by
  refine .inr ⟨.list (ys.map .str), .list (([] : List Str).map .str), .lst h1 (dp_strs _), .lst h2 .nil, shp_strs ok, shp_strs (fun y hy => by cases hy), ?_⟩
  have e : PyData.eqv (.list (ys.map .str)) (.list (([] : List Str).map .str)) = decide (ys = []) := by
    rw [PyData.eqv]
    cases ys <;> rfl
  rw [e]
  exact k
def RevE (K : PySem.W.Frag) (Q : VK) (x : V) (H1 : Hp) : Prop := ∃ a xs, x = .ref a ∧ SqL K H1 a xs ∧ ∀ p, H1 p = none → Q (.ref p) (upd H1 p (.lst xs.reverse))
theorem w_revL {K : PySem.W.Frag} {σ : L2.St} {H : Hp} {Q : VK} {te : TE} (k : te σ H fun x H1 => RevE K Q x H1) : tRevL K te σ H Q := k
theorem w_revE {K : PySem.W.Frag} {H : Hp} {Q : VK} {a : Addr} {xs : List V} (h : SqL K H a xs) (k : ∀ p H', H p = none → Sm H H' → H' p = some (.lst xs.reverse) → Q (.ref p) H') : RevE K Q (.ref a) H := ⟨a, xs, rfl, h, fun p hp => k p _ hp (sm_new hp) upd_same⟩
/-! x or y, x a text -/
def OrS (K : PySem.W.Frag) (tb : TE) (σ : L2.St) (Q : VK) (x : V) (H1 : Hp) : Prop := ∃ k, TruV K x H1 k ∧ if k = true then Q x H1 else tb σ H1 Q
theorem w_orT {K : PySem.W.Frag} {ta tb : TE} {σ : L2.St} {H : Hp} {Q : VK} (k : ta σ H fun x H1 => OrS K tb σ Q x H1) : tOrT K ta tb σ H Q := k
theorem w_orS {K : PySem.W.Frag} {tb : TE} {σ : L2.St} {H : Hp} {Q : VK} {z : Str} (zl : z.length ≤ sizeLine) (k1 : z.cps.toList ≠ [] → Q (.str z) H) (k2 : z.cps.toList = [] → tb σ H Q) : OrS K tb σ Q (.str z) H := by
  refine ⟨_, ⟨zl, rfl⟩, ?_⟩
  have e : z.length = z.cps.toList.length := (tl_len z).symm
  cases h : z.cps.toList with
  | nil =>
    rw [h] at e
    rw [e]
    exact k2 h
  | cons c l =>
    rw [h] at e
    rw [e, if_pos (by rw [bne_iff_ne, List.length_cons]; omega)]
    exact k1 (by rw [h]; intro z; cases z)
def gStrB : List V → Hp → VK → Prop := fun xs H Q => ∃ i : Int, xs = [.int i] ∧ i.natAbs.log2 < 1920 ∧ Q (.str (toString i)) H
theorem call_gStrB {X : Cx} : CallR X (.type "str") gStrB := call_str_int
theorem w_strB {i : Int} {H : Hp} {Q : VK} (h : i = 0 ∨ i = 1) (k : Q (.str (sg (48 + i.toNat))) H) : gStrB [.int i] H Q := by
  refine ⟨i, rfl, ?_, ?_⟩
  · rcases h with rfl | rfl <;> decide
  · rw [tos_bit h]; exact k
/-! a nought, so often -/
theorem zeros_ok {m : Int} (h0 : 0 ≤ m) (h1 : m ≤ 10000) : MulOk (Str.ofString "0") m := by
  have e : (Str.ofString "0").length = 1 := rfl
  refine ⟨?_, fun h _ => ?_, fun _ _ => ?_⟩
  · rw [Bool.or_eq_false_iff, decide_eq_false_iff_not, decide_eq_false_iff_not]
    exact ⟨by omega, by omega⟩
  · rw [e]
    have : (1 : Int) ≤ (2 ^ 63 - 1) / m := by
      rw [Int.le_ediv_iff_mul_le (by omega)]
      omega
    omega
  · rw [e]
    show decide (1 * m.toNat > sizeLine) = false
    rw [decide_eq_false_iff_not]
    have : m.toNat ≤ sizeLine := sz_of (by omega)
    omega
theorem rep_fold (c : Nat) : ∀ (n : Nat) (a : Array Nat), ((List.replicate n (#[c] : Array Nat)).foldl (· ++ ·) a).toList = a.toList ++ List.replicate n c
  | 0, a => by simp
  | n + 1, a => by
    rw [List.replicate_succ, List.foldl_cons, rep_fold c n, Array.toList_append, List.append_assoc]
    rfl
theorem zeros_tl {m : Int} (h0 : 0 ≤ m) : (Txt.mul (Str.ofString "0") m).cps.toList = List.replicate m.toNat 48 := by
  unfold Txt.mul
  split
  · rw [show m = 0 by omega]; rfl
  · split
    · rename_i h
      rcases Bool.or_eq_true_iff.mp h with e | e
      · rw [beq_iff_eq.mp e]; rfl
      · cases e
    · exact rep_fold 48 m.toNat #[]
local macro_rules | `(tactic| tm_at "rs") => `(tactic| first | with_reducible refine w_revL ?_ | ((with_reducible refine' w_revE ?h (fun _ _ _ _ _ => ?k)); (case h => tm_at "rsq")) | with_reducible refine w_orT ?_ | fail "no")

/-! texts of plain signs -/
def Low (z : Str) : Prop := ∀ c ∈ z.cps.toList, c < 128
theorem Low.app {a b : Str} (h : Low a) (k : Low b) : Low (a ++ b) := fun c hc => by
  rw [app_tl] at hc
  rcases List.mem_append.mp hc with hc | hc
  · exact h c hc
  · exact k c hc
theorem Low.cut {z : Str} (h : Low z) (lo hi : Option Int) : Low (cutS z lo hi) := fun c hc => by
  refine h c ?_
  unfold cutS at hc
  have e : ∀ l : List Nat, (⟨l.toArray⟩ : Str).cps.toList = l := fun l => rfl
  rw [e] at hc
  exact List.mem_of_mem_drop (List.mem_of_mem_take hc)
theorem Low.sg {z : Str} {i c : Nat} (h : Low z) (e : z.cps.toList[i]? = some c) : Low (⟨#[c]⟩ : Str) := fun x hx => by
  have hx : x ∈ [c] := hx
  rw [List.mem_singleton.mp hx]
  exact h c (List.mem_of_getElem? e)
theorem signs_low : Low (Str.ofString "abcdefghijklmnopqrstuvwxyz0123456789") := by
  have h : (Str.ofString "abcdefghijklmnopqrstuvwxyz0123456789").cps.toList.all (fun c => decide (c < 128)) = true := by decide +kernel
  intro c hc
  exact of_decide_eq_true (List.all_eq_true.mp h c hc)
theorem zeros_low (m : Int) (h : 0 ≤ m) : Low (Txt.mul (Str.ofString "0") m) := fun c hc => by
  rw [zeros_tl h] at hc
  rw [List.eq_of_mem_replicate hc]
  decide

/-! a dict of names and numbers -/
structure DicOk (kvs : List (Key × V)) (ys : List Str) (M : Nat) : Prop where
  nd : (kvs.map (·.1)).Nodup
  ok : ∀ p ∈ kvs, ∃ (s : Str) (n : Nat), p = (Sum.inr s, V.int (n : Nat)) ∧ n < M ∧ Low s
  has : ∀ y ∈ ys, ∃ p ∈ kvs, p.1 = Sum.inr y
def gOf (kvs : List (Key × V)) (s : Str) : Nat := match valV kvs (.inr s) with
  | some (.int i) => i.toNat
  | _ => 0
theorem valV_some {kvs : List (Key × V)} {k : Key} {v : V} (h : valV kvs k = some v) : (k, v) ∈ kvs := by
  unfold valV at h
  cases e : kvs.find? (fun kv => decide (kv.1 = k)) with
  | none => rw [e] at h; cases h
  | some p =>
    rw [e] at h
    cases h
    have h1 := List.find?_some e
    have h2 := List.mem_of_find?_eq_some e
    have h1 := of_decide_eq_true h1
    obtain ⟨a, b⟩ := p
    have h1 : a = k := h1
    subst h1
    exact h2
theorem DicOk.val {kvs : List (Key × V)} {ys : List Str} {M : Nat} (h : DicOk kvs ys M) {s : Str} (e : (valV kvs (.inr s)).isSome = true) : valV kvs (.inr s) = some (.int (gOf kvs s : Nat)) ∧ gOf kvs s < M := by
  obtain ⟨v, hv⟩ := Option.isSome_iff_exists.mp e
  obtain ⟨s', n, e1, hn, _⟩ := h.ok _ (valV_some hv)
  cases e1
  have hg : gOf kvs s = n := by
    unfold gOf
    rw [hv]
    rfl
  rw [hg]
  exact ⟨hv, hn⟩
theorem DicOk.at {kvs : List (Key × V)} {ys : List Str} {M : Nat} (h : DicOk kvs ys M) {y : Str} (hy : y ∈ ys) : valV kvs (.inr y) = some (.int (gOf kvs y : Nat)) ∧ gOf kvs y < M := h.val (valV_has.mpr (h.has y hy))
theorem DicOk.nil {M : Nat} : DicOk [] [] M := ⟨List.nodup_nil, (by intro p hp; cases hp), (by intro y hy; cases hy)⟩
theorem DicOk.up {kvs : List (Key × V)} {ys : List Str} {M M' : Nat} (h : DicOk kvs ys M) (l : M ≤ M') : DicOk kvs ys M' := ⟨h.nd, fun p hp => by
  obtain ⟨s, n, e, hn, hs⟩ := h.ok p hp
  exact ⟨s, n, e, by omega, hs⟩, h.has⟩
theorem DicOk.sub {kvs : List (Key × V)} {ys zs : List Str} {M : Nat} (h : DicOk kvs ys M) (l : ∀ z ∈ zs, z ∈ ys) : DicOk kvs zs M := ⟨h.nd, h.ok, fun z hz => h.has z (l z hz)⟩
theorem putK_len {kvs : List (Key × V)} {k : Key} {v : V} : (putK kvs k v).length ≤ kvs.length + 1 := by
  unfold putK
  split
  · rw [List.length_map]; omega
  · rw [List.length_append]; exact Nat.le_refl _
theorem DicOk.put {kvs : List (Key × V)} {ys : List Str} {M : Nat} (h : DicOk kvs ys M) (s : Str) (hs : Low s) {n : Nat} (hn : n < M) : DicOk (putK kvs (.inr s) (.int (n : Nat))) (ys ++ [s]) M := by
  refine ⟨?_, ?_, fun y hy => ?_⟩
  · unfold putK
    split
    · rw [List.map_map]
      have e : ((fun x : Key × V => x.1) ∘ fun kv : Key × V => if kv.1 = Sum.inr s then (kv.1, V.int (n : Nat)) else kv) = fun x => x.1 := by
        funext x
        show (if x.1 = Sum.inr s then (x.1, V.int (n : Nat)) else x).1 = x.1
        split <;> rfl
      first | (rw [e]; exact h.nd) | (refine cast ?_ h.nd; congr 1; refine List.map_congr_left fun x _ => ?_; show _ = (if _ then _ else _).1; split <;> rfl)
    · rename_i hno
      rw [List.map_append]
      refine List.nodup_append.mpr ⟨h.nd, by simp, fun x hx y hy => ?_⟩
      have hy : y = Sum.inr s := List.mem_singleton.mp hy
      subst hy
      rintro rfl
      obtain ⟨p, hp, e⟩ := List.mem_map.mp hx
      exact hno (List.any_eq_true.mpr ⟨p, hp, decide_eq_true e⟩)
  · intro p hp
    unfold putK at hp
    split at hp
    · obtain ⟨r, hr, rfl⟩ := List.mem_map.mp hp
      split
      · rename_i e
        exact ⟨s, n, by rw [e], hn, hs⟩
      · exact h.ok r hr
    · rcases List.mem_append.mp hp with hp | hp
      · exact h.ok p hp
      · rw [List.mem_singleton.mp hp]
        exact ⟨s, n, rfl, hn, hs⟩
  · rw [putK_has]
    rcases List.mem_append.mp hy with hy | hy
    · exact .inr (h.has y hy)
    · rw [List.mem_singleton.mp hy]
      exact .inl rfl
/-! a dict copied, two dicts compared -/
def gDictD : List V → Hp → VK → Prop := fun xs H Q => ∃ (a : Addr) (kvs : List (Key × V)), xs = [.ref a] ∧ Rd H a (.dK kvs) ∧ ∀ p, H p = none → Q (.ref p) (upd H p (.dK kvs))
theorem call_gDictD {X : Cx} : CallR X (.type "dict") gDictD := call_dictD
theorem w_dictD {H : Hp} {Q : VK} {a : Addr} {kvs : List (Key × V)} (h : H a = some (.dK kvs)) (k : ∀ p H', H p = none → Sm H H' → H' p = some (.dK kvs) → Q (.ref p) H') : gDictD [.ref a] H Q := ⟨a, kvs, rfl, .inl h, fun p hp => k p _ hp (sm_new hp) upd_same⟩
theorem op_gNeD {X : Cx} (hu : X.A.units + 64 < cLine) : OpR X (compareOp .NotEq) rNeDA := op_ne_dictA (by omega)
theorem valV_nd : ∀ {kvs : List (Key × V)} {p : Key × V}, (kvs.map (·.1)).Nodup → p ∈ kvs → valV kvs p.1 = some p.2
  | q :: r, p, hn, hp => by
    rw [List.map_cons, List.nodup_cons] at hn
    rcases List.mem_cons.mp hp with rfl | hp
    · exact valV_pos rfl
    · rw [valV_neg (fun e => hn.1 (by rw [e]; exact List.mem_map.mpr ⟨p, hp, rfl⟩))]
      exact valV_nd hn.2 hp
theorem w_neD {H : Hp} {Q : VK} {a b : Addr} {kvs : List (Key × V)} {ys : List Str} {M : Nat} (ha : H a = some (.dK kvs)) (hb : H b = some (.dK kvs)) (d : DicOk kvs ys M) (k : Q (.bl false) H) : rNeDA (.ref a) (.ref b) H Q :=
  ⟨a, b, kvs, kvs, rfl, rfl, ha, hb, rfl, fun p hp => by
    obtain ⟨s, n, rfl, _, _⟩ := d.ok p hp
    exact ⟨valV_nd d.nd hp, rfl⟩, k⟩
/-! a dict's items as a list, two such lists compared -/
def valD : V → PyData
  | .int i => .int i
  | _ => .none
def keyD : Key → PyData
  | .inl i => .int i
  | .inr s => .str s
def itD (kvs : List (Key × V)) : List PyData := kvs.map fun p => .tuple [keyD p.1, valD p.2]
theorem itD_ok : ∀ {kvs : List (Key × V)}, (∀ p ∈ kvs, ∃ (s : Str) (n : Nat), p = (Sum.inr s, V.int (n : Nat)) ∧ Low s) → PyData.canLayAll0 (itD kvs) = true ∧ PyData.depthAll (itD kvs) ≤ 1
  | [], _ => ⟨rfl, by decide⟩
  | p :: r, h => by
    obtain ⟨h1, h2⟩ := itD_ok (kvs := r) (fun q hq => h q (List.mem_cons_of_mem _ hq))
    obtain ⟨s, n, rfl, hs⟩ := h p List.mem_cons_self
    have ok : PyData.strOk s = true := by
      unfold PyData.strOk
      rw [← Array.all_toList, List.all_eq_true]
      intro c hc
      have := hs c hc
      exact decide_eq_true (by omega)
    refine ⟨?_, ?_⟩
    · show PyData.canLayAll0 (PyData.tuple [PyData.str s, PyData.int n] :: itD r) = true
      simp [PyData.canLayAll0, PyData.canLay0, ok, h1]
    · show PyData.depthAll (PyData.tuple [PyData.str s, PyData.int n] :: itD r) ≤ 1
      simp only [PyData.depthAll, PyData.depth]
      omega
theorem itD_dp {K : PySem.W.Frag} {H : Hp} : ∀ {ts : List Addr} {kvs : List (Key × V)}, (∀ p ∈ kvs, ∃ (s : Str) (n : Nat), p = (Sum.inr s, V.int (n : Nat)) ∧ Low s) → Paired (fun (t : Addr) (q : Key × V) => H t = some (.tup [kV q.1, q.2])) ts kvs → DpAll K H (ts.map V.ref) (itD kvs)
  | _, [], _, .nil => .nil
  | t :: ts, p :: r, h, .cons a b => by
    have ih := itD_dp (K := K) (fun q hq => h q (List.mem_cons_of_mem _ hq)) b
    obtain ⟨s, n, rfl, _⟩ := h p List.mem_cons_self
    exact .cons (.tup (st_of a) (.cons (.str s) (.cons (.int n) .nil))) ih
theorem w_neSame {K : PySem.W.Frag} {H : Hp} {Q : VK} {x y : V} {d : PyData} (h1 : Dp K H x d) (h2 : Dp K H y d) (s : SeqAt.shaped d = true) (k : Q (.bl false) H) : gNe K x y H Q := by
  refine .inr ⟨d, d, h1, h2, s, s, ?_⟩
  rw [PySem.SeqAt.eqv_refl d (SeqAt.canLay_of_shaped s)]
  exact k
theorem itD_shaped {kvs : List (Key × V)} (h : ∀ p ∈ kvs, ∃ (s : Str) (n : Nat), p = (Sum.inr s, V.int (n : Nat)) ∧ Low s) : SeqAt.shaped (.list (itD kvs)) = true := by
  obtain ⟨h1, h2⟩ := itD_ok h
  unfold SeqAt.shaped
  rw [Bool.and_eq_true, decide_eq_true_eq]
  refine ⟨by simp [PyData.canLay0, h1], ?_⟩
  simp only [PyData.depth]
  omega
theorem DicOk.low {kvs : List (Key × V)} {ys : List Str} {M : Nat} (h : DicOk kvs ys M) : ∀ p ∈ kvs, ∃ (s : Str) (n : Nat), p = (Sum.inr s, V.int (n : Nat)) ∧ Low s := fun p hp => by
  obtain ⟨s, n, e, _, hs⟩ := h.ok p hp
  exact ⟨s, n, e, hs⟩
def ItmE (Q : VK) (x : V) (H : Hp) : Prop := LiI.rItemsL x H Q
theorem w_itm {te : TE} {σ : L2.St} {H : Hp} {Q : VK} (k : te σ H fun x H1 => ItmE Q x H1) : LiI.tListItems te σ H Q := k
theorem w_itmE {H : Hp} {Q : VK} {d : Addr} {kvs : List (Key × V)} (h : H d = some (.dK kvs)) (k : ∀ (p : Addr) (ts : List Addr) (H' : Hp), H p = none → Sm H H' → H' p = some (.lst (ts.map V.ref)) → Paired (fun (t : Addr) (q : Key × V) => H' t = some (.tup [kV q.1, q.2])) ts kvs → Q (.ref p) H') : ItmE Q (.ref d) H :=
  ⟨d, kvs, rfl, h, fun H' p ts sm np _ _ g pr => k p ts H' np sm g pr⟩
local macro_rules | `(tactic| tm_at "rs") => `(tactic| first | with_reducible refine w_itm ?_ | ((with_reducible refine' w_itmE ?h (fun _ _ _ _ _ _ _ => ?k)); (case h => tm_at "rlk")) | ((with_reducible refine' w_dictD ?h (fun _ _ _ _ _ => ?k)); (case h => tm_at "rlk")) | fail "no")

/-! lists: slices by a number, pairs in step, sums -/
theorem cut_hi {xs : List V} {j : Int} (h0 : 0 ≤ j) : cutV xs none (some j) = xs.take j.toNat := by
  obtain ⟨k, rfl⟩ := Int.eq_ofNat_of_zero_le h0
  unfold cutV
  rw [HT.sIx_none, HT.sIx_nat, List.drop_zero, Nat.sub_zero, Int.toNat_natCast]
  rcases Nat.le_total k xs.length with h | h
  · rw [Nat.min_eq_left h]
  · rw [Nat.min_eq_right h, List.take_length, List.take_of_length_le h]
theorem cut_lo {xs : List V} {j : Int} (h0 : 0 ≤ j) : cutV xs (some j) none = xs.drop j.toNat := by
  obtain ⟨k, rfl⟩ := Int.eq_ofNat_of_zero_le h0
  unfold cutV
  rw [HT.sIx_none, HT.sIx_nat, Int.toNat_natCast]
  rcases Nat.le_total k xs.length with h | h
  · rw [Nat.min_eq_left h, List.take_of_length_le (by rw [List.length_drop]; exact Nat.le_refl _)]
  · rw [Nat.min_eq_right h, List.drop_length, List.take_nil, List.drop_of_length_le h]
theorem pr_of {α β : Type} {F : α → β → Prop} : ∀ {xs : List α}, (∀ x ∈ xs, ∃ y, F x y) → ∃ ys, Paired F xs ys
  | [], _ => ⟨[], .nil⟩
  | x :: xs, h => by
    obtain ⟨y, hy⟩ := h x List.mem_cons_self
    obtain ⟨ys, hys⟩ := pr_of (xs := xs) fun z hz => h z (List.mem_cons_of_mem _ hz)
    exact ⟨y :: ys, .cons hy hys⟩
theorem pr_take {α β : Type} {F : α → β → Prop} : ∀ {xs : List α} {ys : List β} (n : Nat), Paired F xs ys → Paired F (xs.take n) (ys.take n)
  | _, _, 0, _ => by
    rw [List.take_zero, List.take_zero]
    exact .nil
  | _, _, n + 1, .nil => .nil
  | _, _, n + 1, .cons a b => .cons a (pr_take n b)
theorem pr_drop {α β : Type} {F : α → β → Prop} : ∀ {xs : List α} {ys : List β} (n : Nat), Paired F xs ys → Paired F (xs.drop n) (ys.drop n)
  | _, _, 0, h => h
  | _, _, n + 1, .nil => .nil
  | _, _, n + 1, .cons a b => pr_drop n b
theorem pr_rev {α β : Type} {F : α → β → Prop} : ∀ {xs : List α} {ys : List β}, Paired F xs ys → Paired F xs.reverse ys.reverse
  | _, _, .nil => .nil
  | _, _, .cons a b => by
    rw [List.reverse_cons, List.reverse_cons]
    exact (pr_rev b).snoc a
theorem sum_app : ∀ (a b : List Int), (a ++ b).sum = a.sum + b.sum
  | [], b => by rw [List.nil_append, List.sum_nil, Int.zero_add]
  | x :: a, b => by rw [List.cons_append, List.sum_cons, List.sum_cons, sum_app a b, Int.add_assoc]
theorem sum_rev : ∀ a : List Int, a.reverse.sum = a.sum
  | [] => rfl
  | x :: a => by rw [List.reverse_cons, sum_app, sum_rev a, List.sum_cons, List.sum_cons, List.sum_nil, Int.add_zero, Int.add_comm]
theorem sum_cut (a : List Int) (n : Nat) : (a.take n).sum + (a.drop n).sum = a.sum := by
  rw [← sum_app, List.take_append_drop]
theorem w_repL {H : Hp} {Q : VK} {l : Addr} {xs : List V} {j : Int} (h : H l = some (.lst xs)) (h0 : 0 ≤ j) (h1 : j ≤ 1000) (z : xs.length ≤ 100) (k : ∀ p H', H p = none → Sm H H' → H' p = some (.lst (List.replicate j.toNat xs).flatten) → Q (.ref p) H') : gMul (.ref l) (.int j) H Q :=
  .inr (.inr ⟨l, j, _, rfl, rfl, h, by omega, by omega, sz_of (by
    have := Nat.mul_le_mul z (show j.toNat ≤ 1000 by omega)
    omega), fun p hp => k p _ hp (sm_new hp) upd_same⟩)
theorem mem_rep {xs : List V} {n : Nat} {x : V} (h : x ∈ (List.replicate n xs).flatten) : x ∈ xs := by
  obtain ⟨l, hl, hx⟩ := List.mem_flatten.mp h
  rw [(List.mem_replicate.mp hl).2] at hx
  exact hx
theorem rep_pos {xs : List V} {n : Nat} (hn : 0 < n) (h : 0 < xs.length) : 0 < (List.replicate n xs).flatten.length := by
  obtain ⟨x, hx⟩ := List.exists_mem_of_length_pos h
  exact List.length_pos_of_mem (List.mem_flatten.mpr ⟨xs, List.mem_replicate.mpr ⟨by omega, rfl⟩, hx⟩)
/-! both ways of an if lead to one place -/
theorem w_ifJ {t : TT} {A B : TS} {n0 c d : L2.St → Hp → Prop} {r : VK} {σ : L2.St} {H : Hp} (J : L2.St → Hp → Prop) (key : ∀ σ' H', J σ' H' → NX (En n0 r c d) σ' H') (body : ∀ n : L2.St → Hp → Prop, (∀ σ' H', J σ' H' → n σ' H') → tIfS t A B (En n r c d) σ H) : tIfS t A B (En n0 r c d) σ H := body n0 key

/-! rows of a program -/
inductive Rw where
  | up (j : Nat)
  | dn (j : Nat)
  | br (j g : Nat)
  | go (g : Nat)
  | st
deriving DecidableEq
def Rw.vs : Rw → List V
  | .up j => [.str "raise", .int (j : Int)]
  | .dn j => [.str "lower", .int (j : Int)]
  | .br j g => [.str "if", .int (j : Int), .int (g : Int)]
  | .go g => [.str "go", .int (g : Int)]
  | .st => [.str "stop"]
def Rw.ds : Rw → List PyData
  | .up j => [.str "raise", .int (j : Int)]
  | .dn j => [.str "lower", .int (j : Int)]
  | .br j g => [.str "if", .int (j : Int), .int (g : Int)]
  | .go g => [.str "go", .int (g : Int)]
  | .st => [.str "stop"]
theorem Rw.tpl {H : Hp} : ∀ r : Rw, TpL H r.ds r.vs
  | .up _ => tpl_cons tpd_s (tpl_cons tpd_i tpl_nil)
  | .dn _ => tpl_cons tpd_s (tpl_cons tpd_i tpl_nil)
  | .br _ _ => tpl_cons tpd_s (tpl_cons tpd_i (tpl_cons tpd_i tpl_nil))
  | .go _ => tpl_cons tpd_s (tpl_cons tpd_i tpl_nil)
  | .st => tpl_cons tpd_s tpl_nil
def Rw.ok (b n : Nat) : Rw → Prop
  | .up j => j < b
  | .dn j => j < b
  | .br j g => j < b ∧ g < n
  | .go g => g < n
  | .st => True
theorem Rw.ok_up {b n n' : Nat} (l : n ≤ n') : ∀ {r : Rw}, r.ok b n → r.ok b n'
  | .up _, h => h
  | .dn _, h => h
  | .br _ _, h => ⟨h.1, Nat.lt_of_lt_of_le h.2 l⟩
  | .go _, h => Nat.lt_of_lt_of_le h l
  | .st, h => h
def Rw.ends : Rw → Prop
  | .go _ => True
  | .st => True
  | _ => False
def RwAt (H : Hp) (v : V) (r : Rw) : Prop := ∃ p, v = .ref p ∧ H p = some (.tup r.vs)
theorem RwAt.tk {H H' : Hp} {v : V} {r : Rw} (h : RwAt H v r) (e : Tk H H') : RwAt H' v r := by
  obtain ⟨p, rfl, q⟩ := h
  exact ⟨p, rfl, e _ _ q⟩
abbrev RwsAt (H : Hp) (vs : List V) (rs : List Rw) : Prop := Paired (RwAt H) vs rs
theorem RwsAt.tk {H H' : Hp} {vs : List V} {rs : List Rw} (h : RwsAt H vs rs) (e : Tk H H') : RwsAt H' vs rs := paired_mono (fun _ _ q => q.tk e) h
def RwsOk (b n : Nat) (rs : List Rw) : Prop := ∀ r ∈ rs, r.ok b n
theorem RwsOk.up {b n n' : Nat} {rs : List Rw} (h : RwsOk b n rs) (l : n ≤ n') : RwsOk b n' rs := fun r hr => Rw.ok_up l (h r hr)
theorem RwsOk.app {b n : Nat} {rs qs : List Rw} (h : RwsOk b n rs) (k : RwsOk b n qs) : RwsOk b n (rs ++ qs) := fun r hr => by
  rcases List.mem_append.mp hr with hr | hr
  · exact h r hr
  · exact k r hr
theorem RwsOk.nil {b n : Nat} : RwsOk b n [] := fun r hr => by cases hr
theorem RwsOk.one {b n : Nat} {r : Rw} (o : r.ok b n) : RwsOk b n [r] := fun q hq => by
  rw [List.mem_singleton.mp hq]
  exact o
theorem RwsOk.cons {b n : Nat} {r : Rw} {rs : List Rw} (o : r.ok b n) (h : RwsOk b n rs) : RwsOk b n (r :: rs) := fun q hq => by
  rcases List.mem_cons.mp hq with rfl | hq
  · exact o
  · exact h q hq
theorem rw_one {H : Hp} {p : Addr} {r : Rw} (h : H p = some (.tup r.vs)) : RwAt H (.ref p) r := ⟨p, rfl, h⟩
/-- the rows of a program of b boxes -/
structure Prg (b : Nat) (rs : List Rw) : Prop where
  b1 : 1 ≤ b
  b5 : b ≤ 5
  ok : RwsOk b rs.length rs
  len : rs.length ≤ 14
  fin : ∃ us r, rs = us ++ [r] ∧ r.ends
theorem Prg.pos {b : Nat} {rs : List Rw} (h : Prg b rs) : 1 ≤ rs.length := by
  obtain ⟨us, v, q, z⟩ := h.fin
  rw [q, List.length_append]
  exact Nat.le_add_left 1 _
/-- a program's own object -/
def PrC (K : PySem.W.Frag) (C : Addr) : Prop := ClsN K "Program" C ["boxes", "rows"]
def PrgAt (K : PySem.W.Frag) (H : Hp) (v : V) (b : Nat) (rs : List Rw) : Prop := ∃ p C dx t vs, v = .ref p ∧ PrC K C ∧ H p = some (.ins C dx [("boxes", .int (b : Nat)), ("rows", .ref t)]) ∧ H t = some (.tup vs) ∧ RwsAt H vs rs
theorem PrgAt.sm {K : PySem.W.Frag} {H H' : Hp} {v : V} {b : Nat} {rs : List Rw} (h : PrgAt K H v b rs) (e : Sm H H') : PrgAt K H' v b rs := by
  obtain ⟨p, C, dx, t, vs, rfl, c, q, ht, hr⟩ := h
  exact ⟨p, C, dx, t, vs, rfl, c, e _ _ q, e _ _ ht, hr.tk (Tk.sm e)⟩
theorem PrgAt.kp {K : PySem.W.Frag} {H H' : Hp} {v : V} {b : Nat} {rs : List Rw} {a : Addr} {ys : List V} (h : PrgAt K H v b rs) (ha : H a = some (.lst ys)) (e : Kp a H H') : PrgAt K H' v b rs := by
  obtain ⟨p, C, dx, t, vs, rfl, c, q, ht, hr⟩ := h
  exact ⟨p, C, dx, t, vs, rfl, c, e _ _ (by intro z; rw [z, ha] at q; cases q) q, Tk.kp ha e _ _ ht, hr.tk (Tk.kp ha e)⟩
theorem PrgAt.kb {K : PySem.W.Frag} {H H' : Hp} {v : V} {b : Nat} {rs : List Rw} {a : Addr} (h : PrgAt K H v b rs) (ha : BoxAt H a) (e : Kp a H H') : PrgAt K H' v b rs := by
  obtain ⟨x, s, hb, _⟩ := ha
  exact h.kp hb e
theorem PrgAt.kn {K : PySem.W.Frag} {H H' : Hp} {v : V} {b : Nat} {rs : List Rw} {a : Addr} (h : PrgAt K H v b rs) (ha : H a = none) (e : Kp a H H') : PrgAt K H' v b rs := by
  obtain ⟨p, C, dx, t, vs, rfl, c, q, ht, hr⟩ := h
  exact ⟨p, C, dx, t, vs, rfl, c, e _ _ (ne_of_none q ha) q, Tk.kn ha e _ _ ht, hr.tk (Tk.kn ha e)⟩
local macro_rules | `(tactic| tm_at "rpg") => `(tactic| first | with_reducible assumption | ((refine' PrgAt.sm ?sa ?sb); (case sb => with_reducible assumption); (case sa => tm_at "rpg")) | ((refine' PrgAt.kb ?sa ?sc ?sb); (case sb => with_reducible assumption); (case sc => tm_at "rbx"); (case sa => tm_at "rpg")) | ((refine' PrgAt.kp ?sa ?sc ?sb); (case sb => with_reducible assumption); (case sc => tm_at "rlk"); (case sa => tm_at "rpg")) | fail "no")
theorem w_fBoxes {K : PySem.W.Frag} {H : Hp} {Q : VK} {v : V} {b : Nat} {rs : List Rw} (h : PrgAt K H v b rs) (k : Q (.int (b : Nat)) H) : FldE K "boxes" Q v H := by
  obtain ⟨p, C, dx, t, vs, rfl, c, q, ht, hr⟩ := h
  exact ⟨p, C, dx, _, _, rfl, q, c.cl, c.na _ (by simp), rfl, k⟩
theorem w_fRows {K : PySem.W.Frag} {H : Hp} {Q : VK} {v : V} {b : Nat} {rs : List Rw} (h : PrgAt K H v b rs) (k : ∀ t vs, H t = some (.tup vs) → RwsAt H vs rs → Q (.ref t) H) : FldE K "rows" Q v H := by
  obtain ⟨p, C, dx, t, vs, rfl, c, q, ht, hr⟩ := h
  exact ⟨p, C, dx, _, _, rfl, q, c.cl, c.na _ (by simp), rfl, k t vs ht hr⟩
local macro_rules | `(tactic| tm_at "rs") => `(tactic| first | ((with_reducible refine' w_fBoxes ?h ?k); (case h => tm_at "rpg")) | ((with_reducible refine' w_fRows ?h (fun _ _ _ _ => ?k)); (case h => tm_at "rpg")) | fail "no")
/-! a row's word -/
def Rw.word : Rw → Str
  | .up _ => "raise"
  | .dn _ => "lower"
  | .br _ _ => "if"
  | .go _ => "go"
  | .st => "stop"
theorem Rw.vs_word (r : Rw) : ∃ l, r.vs = .str r.word :: l := by cases r <;> exact ⟨_, rfl⟩
theorem w_ixRow {K : PySem.W.Frag} {H : Hp} {Q : VK} {p : Addr} {vs : List V} {rs : List Rw} {k : Nat} {r : Rw} (h : SqL K H p vs ∨ SqT K H p vs) (hr : RwsAt H vs rs) (hk : rs[k]? = some r) (q : ∀ t, H t = some (.tup r.vs) → Q (.ref t) H) : rIx K (.ref p) (.int (k : Int)) H Q := by
  obtain ⟨v, e1, t, rfl, ht⟩ := paired_getR hr hk
  rcases h with h | h
  · exact w_ixL' h (atI_nat e1) (q t ht)
  · exact w_ixT h (atI_nat e1) (q t ht)
/-! one step -/
def aftr (rs : List Rw) (k : Nat) (cs : List Nat) : Option (Nat × List Nat) :=
  match rs[k]? with
  | some (.up j) => some (k + 1, cs.set j (cs.getD j 0 + 1))
  | some (.dn j) => if cs.getD j 0 = 0 then none else some (k + 1, cs.set j (cs.getD j 0 - 1))
  | some (.br j g) => some (if cs.getD j 0 = 0 then g else k + 1, cs)
  | some (.go g) => some (g, cs)
  | _ => none
theorem aft_up {rs : List Rw} {k j : Nat} {cs : List Nat} (h : rs[k]? = some (.up j)) : aftr rs k cs = some (k + 1, cs.set j (cs.getD j 0 + 1)) := by
  unfold aftr
  rw [h]
theorem aft_dn0 {rs : List Rw} {k j : Nat} {cs : List Nat} (h : rs[k]? = some (.dn j)) (z : cs.getD j 0 = 0) : aftr rs k cs = none := by
  unfold aftr
  rw [h]
  exact if_pos z
theorem aft_dn {rs : List Rw} {k j : Nat} {cs : List Nat} (h : rs[k]? = some (.dn j)) (z : cs.getD j 0 ≠ 0) : aftr rs k cs = some (k + 1, cs.set j (cs.getD j 0 - 1)) := by
  unfold aftr
  rw [h]
  exact if_neg z
theorem aft_br0 {rs : List Rw} {k j g : Nat} {cs : List Nat} (h : rs[k]? = some (.br j g)) (z : cs.getD j 0 = 0) : aftr rs k cs = some (g, cs) := by
  unfold aftr
  rw [h]
  show some (if cs.getD j 0 = 0 then g else k + 1, cs) = _
  rw [if_pos z]
theorem aft_br {rs : List Rw} {k j g : Nat} {cs : List Nat} (h : rs[k]? = some (.br j g)) (z : cs.getD j 0 ≠ 0) : aftr rs k cs = some (k + 1, cs) := by
  unfold aftr
  rw [h]
  show some (if cs.getD j 0 = 0 then g else k + 1, cs) = _
  rw [if_neg z]
theorem aft_go {rs : List Rw} {k g : Nat} {cs : List Nat} (h : rs[k]? = some (.go g)) : aftr rs k cs = some (g, cs) := by
  unfold aftr
  rw [h]
theorem aft_st {rs : List Rw} {k : Nat} {cs : List Nat} (h : rs[k]? = some .st) : aftr rs k cs = none := by
  unfold aftr
  rw [h]
theorem nV_at {cs : List Nat} {j : Nat} (h : j < cs.length) : atI (nV cs) (j : Int) = some (.int (cs.getD j 0 : Nat)) := by
  refine atI_nat (nV_get ?_)
  rw [List.getD_eq_getElem?_getD, List.getElem?_eq_getElem h]
  rfl
theorem set_cut {cs : List Nat} {j : Nat} {c : Nat} (h : j < cs.length) : nV (cs.set j c) = (nV cs).take j ++ (V.int (c : Nat) :: (nV cs).drop (j + 1)) := by
  rw [List.set_eq_take_append_cons_drop, if_pos h, nV_take, nV_drop, nV_app]
  rfl
/-- contents put together anew -/
theorem set_cat {cs : List Nat} {j : Nat} {c : Int} {n : Nat} (h : j < cs.length) (e : c = (n : Nat)) : cutV (nV cs) none (some (j : Int)) ++ [V.int c] ++ cutV (nV cs) (some ((j : Int) + 1)) none = nV (cs.set j n) := by
  rw [cut_hi (by omega), cut_lo (by omega), set_cut h, e, Int.toNat_natCast, show ((j : Int) + 1).toNat = j + 1 by omega, List.append_assoc]
  rfl
theorem cut_len {xs : List V} {lo hi : Option Int} : (cutV xs lo hi).length ≤ xs.length := by
  unfold cutV
  rw [List.length_take, List.length_drop]
  omega
def StdAt (H : Hp) (v : V) (k : Nat) (cs : List Nat) : Prop := ∃ p t, v = .ref p ∧ H p = some (.tup [.int (k : Nat), .ref t]) ∧ H t = some (.tup (nV cs))
theorem StdAt.tk {H H' : Hp} {v : V} {k : Nat} {cs : List Nat} (h : StdAt H v k cs) (e : Tk H H') : StdAt H' v k cs := by
  obtain ⟨p, t, rfl, a, b⟩ := h
  exact ⟨p, t, rfl, e _ _ a, e _ _ b⟩
def OStd (H : Hp) (v : V) : Option (Nat × List Nat) → Prop
  | none => v = .non
  | some (k, cs) => StdAt H v k cs
theorem OStd.tk {H H' : Hp} {v : V} : ∀ {o : Option (Nat × List Nat)}, OStd H v o → Tk H H' → OStd H' v o
  | none, h, _ => h
  | some (_, _), h, e => StdAt.tk h e
/-! the table of words -/
def Rw.kinds : Rw → List Str
  | .up _ => [Str.ofString "box"]
  | .dn _ => [Str.ofString "box"]
  | .br _ _ => [Str.ofString "box", Str.ofString "goal"]
  | .go _ => [Str.ofString "goal"]
  | .st => []
abbrev shpL : List (Str × List Str) := [(Str.ofString "raise", [Str.ofString "box"]), (Str.ofString "lower", [Str.ofString "box"]), (Str.ofString "if", [Str.ofString "box", Str.ofString "goal"]), (Str.ofString "go", [Str.ofString "goal"]), (Str.ofString "stop", [])]
theorem Rw.shp : ∀ r : Rw, (r.word, r.kinds) ∈ shpL
  | .up _ => List.mem_cons_self
  | .dn _ => List.mem_cons_of_mem _ List.mem_cons_self
  | .br _ _ => List.mem_cons_of_mem _ (List.mem_cons_of_mem _ List.mem_cons_self)
  | .go _ => List.mem_cons_of_mem _ (List.mem_cons_of_mem _ (List.mem_cons_of_mem _ List.mem_cons_self))
  | .st => List.mem_cons_of_mem _ (List.mem_cons_of_mem _ (List.mem_cons_of_mem _ (List.mem_cons_of_mem _ List.mem_cons_self)))
theorem Rw.tail_int (r : Rw) : ∀ x ∈ r.vs.drop 1, ∃ n : Nat, x = .int (n : Nat) := by
  intro x hx
  cases r
  all_goals
    simp only [Rw.vs, List.drop_succ_cons, List.drop_zero, List.mem_cons, List.not_mem_nil, or_false] at hx
  all_goals first | exact ⟨_, hx⟩ | (rcases hx with h | h <;> exact ⟨_, h⟩)
theorem w_nieT {K : PySem.W.Frag} {w : World} {Q : VK} {H : Hp} {a : Addr} {l : List (Str × List Str)} {z : Str × List Str} (d : KDt K w a l) (hz : z ∈ l) (k : Q (.bl false) H) : NiE K w Q (.str z.1) (.ref a) H := by
  obtain ⟨t, hv, _⟩ := d.2 z hz
  exact ⟨a, z.1, _, rfl, rfl, d.1, hv, k⟩
def KgE (K : PySem.W.Frag) (w : World) (Q : VK) (x y : V) (H2 : Hp) : Prop := ∃ a z v, x = .ref a ∧ y = .str z ∧ (a == sysModules) = false ∧ KDct K w a z v ∧ Q v H2
theorem w_kg {K : PySem.W.Frag} {w : World} {td ty : TE} {σ : L2.St} {H : Hp} {Q : VK} (k : td σ H fun x H1 => ty σ H1 fun y H2 => KgE K w Q x y H2) : tKGet K w td ty σ H Q := k
theorem w_kge {K : PySem.W.Frag} {w : World} {Q : VK} {H : Hp} {a : Addr} {l : List (Str × List Str)} {z : Str × List Str} (d : KDt K w a l) (hz : z ∈ l) (k : ∀ t, SqT K H t (z.2.map V.str) → Q (.ref t) H) : KgE K w Q (.ref a) (.str z.1) H := by
  obtain ⟨t, hv, hs⟩ := d.2 z hz
  exact ⟨a, z.1, _, rfl, rfl, d.1, hv, k t (hs H)⟩
local macro_rules | `(tactic| tm_at "rs") => `(tactic| first | with_reducible refine w_kg ?_ | fail "no")
theorem w_kgA {K : PySem.W.Frag} {w : World} {Q : VK} {H : Hp} {a : Addr} {l : List (Str × List Str)} {z : Str × List Str} (d : KDt K w a l) (hz : z ∈ l) (k : ∀ t, (∀ H, SqT K H t (z.2.map V.str)) → Q (.ref t) H) : KgE K w Q (.ref a) (.str z.1) H := by
  obtain ⟨t, hv, hs⟩ := d.2 z hz
  exact ⟨a, z.1, _, rfl, rfl, d.1, hv, k t hs⟩
local macro_rules | `(tactic| tm_at "rrw") => `(tactic| first | with_reducible assumption | ((refine' RwsAt.tk ?sa ?sb); (case sa => with_reducible assumption); (case sb => tm_at "rtk")) | fail "no")
local macro_rules | `(tactic| tm_at "rstd") => `(tactic| first | with_reducible assumption | ((refine' StdAt.tk ?sa ?sb); (case sa => with_reducible assumption); (case sb => tm_at "rtk")) | fail "no")
theorem Rw.word_st (r : Rw) : r.word = Str.ofString "stop" ↔ r = .st := by
  cases r
  · exact ⟨fun h => absurd (show Str.ofString "raise" = Str.ofString "stop" from h) (by decide +kernel), fun h => by cases h⟩
  · exact ⟨fun h => absurd (show Str.ofString "lower" = Str.ofString "stop" from h) (by decide +kernel), fun h => by cases h⟩
  · exact ⟨fun h => absurd (show Str.ofString "if" = Str.ofString "stop" from h) (by decide +kernel), fun h => by cases h⟩
  · exact ⟨fun h => absurd (show Str.ofString "go" = Str.ofString "stop" from h) (by decide +kernel), fun h => by cases h⟩
  · exact ⟨fun _ => rfl, fun _ => rfl⟩
local macro_rules | `(tactic| tm_at "rs") => `(tactic| first | ((with_reducible refine' w_ixRow ?h ?i ?j (fun _ _ => ?k)); (case i => tm_at "rrw"); (case h => first | exact .inl (by tm_at "rsq") | exact .inr (by tm_at "rst")); (case j => assumption)) | fail "no")

theorem TmAt.kpB {K : PySem.W.Frag} {H H' : Hp} {t : Tm} {v : V} {b : Addr} (r : TmAt K H t v) (hb : BoxAt H b) (e : Kp b H H') : TmAt K H' t v := by
  obtain ⟨x, s, hb, _⟩ := hb
  exact r.kpL hb e
theorem w_ixStrs {K : PySem.W.Frag} {H : Hp} {Q : VK} {p : Addr} {ys : List Str} {i : Int} (h : SqL K H p (ys.map V.str)) (i0 : 0 ≤ i) (i1 : i < (ys.length : Int)) (k : ∀ s ∈ ys, Q (.str s) H) : rIx K (.ref p) (.int i) H Q := by
  obtain ⟨j, rfl⟩ := Int.eq_ofNat_of_zero_le i0
  have hj : j < ys.length := by omega
  exact w_ixL h (atI_nat (j := j) (by rw [List.getElem?_map, List.getElem?_eq_getElem hj]; rfl)) (k _ (List.getElem_mem hj))
local macro_rules | `(tactic| tm_at "rtm") => `(tactic| first | with_reducible assumption | ((refine' TmAt.sm ?sa ?sb); (case sb => with_reducible assumption); (case sa => tm_at "rtm")) | ((refine' TmAt.kpB ?sa ?sc ?sb); (case sb => with_reducible assumption); (case sc => tm_at "rbx"); (case sa => tm_at "rtm")) | ((refine' TmAt.kpL ?sa ?sc ?sb); (case sb => with_reducible assumption); (case sc => tm_at "rlk"); (case sa => tm_at "rtm")) | ((refine' TmAt.kpD ?sa ?sc ?sb); (case sb => with_reducible assumption); (case sc => tm_at "rlk"); (case sa => tm_at "rtm")) | fail "no")

/-! a walk over a list or a tuple -/
theorem pi_or {X : Cx} {tg l : Expr} {t1 t2 : TI} (h1 : PI X tg l t1) (h2 : PI X tg l t2) : PI X tg l (fun σ H R => t1 σ H R ∨ t2 σ H R) := ⟨fun pins s σ H R I h => h.elim (fun h => h1.run pins s σ H R I h) (fun h => h2.run pins s σ H R I h)⟩

/-! enumerate over a tuple -/
section
open AutoSeq1 (wpAny_loadPart')
theorem meets_enumT (l : Addr) (items : Array Value) (n : Nat) (dct : Option Addr) (sl : Array (Option Value)) :
    Meets (Builtin.«enumerate.__new__» ⟨[.type "enumerate", .ref l], []⟩) (fun _ R s => s.heap.get? l = some { cls := .type "tuple", dict := dct, data := .seq items n, slots := sl } ∧
      R (.ok (.ret (.ref (s.heap.push { cls := .type "tuple_iterator", data := .fields #[.ref l, .int 0 0] }).objs.size)))
        { s with heap := (s.heap.push { cls := .type "tuple_iterator", data := .fields #[.ref l, .int 0 0] }).push { cls := .type "enumerate", data := .fields #[.none, .bool false, .ref s.heap.objs.size, rawInt 0, .none, .none] } }) :=
  .of_wp fun prog w A R s h => by
    obtain ⟨hp, g, d, tk, os⟩ := s; obtain ⟨hl, h⟩ := h
    have hsub := sub_enumerate
    have hL : Heap.IsTuple (Shared.heap ⟨hp, g, d, tk, os⟩) l items := ⟨_, hl, rfl, n, rfl⟩
    wp_walk using wpAny_loadPart' hl
    refine wpAny_stack_any fun st => PySem.wpAny_pure ?_
    split
    · rename_i c _ _ _ _ _
      cases (c == Value.type "enumerate")
      · wp_walk using wpAny_loadPart' hl, wpAny_pyIter_tuple hL
        exact ⟨_, rfl, h⟩
      · wp_walk using wpAny_loadPart' hl, wpAny_pyIter_tuple hL
        exact ⟨_, rfl, h⟩
    · wp_walk using wpAny_loadPart' hl, wpAny_pyIter_tuple hL
      exact ⟨_, rfl, h⟩
end
section
variable {prog : Program} {w : World} {A : Around} {E : Value → Shared → Prop} {s : Shared}
theorem call_enumT {l : Addr} {items : Array Value} {Q : Value → Shared → Prop} (hL : s.heap.IsTuple l items)
    (h : ∀ h', IsEnum h' (s.heap.objs.size + 1) s.heap.objs.size 0 .none → h'.IsTupleIter s.heap.objs.size l 0 → h'.objs.size = s.heap.objs.size + 2 →
      (∀ b o, s.heap.get? b = some o → h'.get? b = some o) → Q (.ref (s.heap.objs.size + 1)) { s with heap := h' }) :
    wpAny (model prog w) A (call (.type "enumerate") [.ref l]) Q E s := by
  obtain ⟨⟨c, dct, dt, sl⟩, hl, hc, n, hd⟩ := hL
  replace hc : c = .type "tuple" := hc
  replace hd : dt = .seq items n := hd
  subst hc hd
  refine callType_new PySem.F.called_enumerate (by decide) (PySem.F.typeCall_enumerate_1 _) (PySem.F.newCall_enumerate_1 _) (fun obj => PySem.F.args_object_init_2 obj _) PySem.F.entry_enumerate_new
    (meets_enumT l items n dct sl) ⟨hl, ?_⟩
  have hz : (s.heap.push { cls := .type "tuple_iterator", data := .fields #[.ref l, .int 0 0] }).objs.size = s.heap.objs.size + 1 := Heap.size_push ..
  show _ ∧ _
  rw [hz]
  have he : IsEnum ((s.heap.push { cls := .type "tuple_iterator", data := .fields #[.ref l, .int 0 0] }).push
      { cls := .type "enumerate", data := .fields #[.none, .bool false, .ref s.heap.objs.size, rawInt 0, .none, .none] }) (s.heap.objs.size + 1) s.heap.objs.size 0 .none := by
    have := Heap.get?_push_size (s.heap.push { cls := .type "tuple_iterator", data := .fields #[.ref l, .int 0 0] })
      (o := { cls := .type "enumerate", data := .fields #[.none, .bool false, .ref s.heap.objs.size, rawInt 0, .none, .none] }) rfl
    rw [hz] at this; exact this
  refine ⟨⟨_, he, rfl⟩, h _ he ⟨_, Heap.get?_push_of_some _ (Heap.get?_push_size _ rfl), rfl, rfl⟩ (by rw [Heap.size_push, hz]) fun b o x => Heap.get?_push_of_some _ (Heap.get?_push_of_some _ x)⟩
end
section
variable {prog : Program} {w : World} {A : Around} {E : Value → Shared → Prop} {s : Shared}
theorem wpAny_pyNext_enum_endT {e it l : Addr} {i : Nat} {items : Array Value} {old : Value} {Q : Option Value → Shared → Prop} (hh : A.handled = none)
    (he : IsEnum s.heap e it i old) (hit : s.heap.IsTupleIter it l i) (hl : s.heap.IsTuple l items) (hx : items[i]? = none)
    (hQ : ∀ h', Heap.ExtBut it s.heap h' → Q none { s with heap := h' }) : wpAny (model prog w) A (pyNext (.ref e)) Q E s := by
  have hT : s.TypeIs (.ref e) "enumerate" := ⟨_, he, rfl⟩
  unfold pyNext
  refine PySem.wpAny_bind (wpAny_attempt (wpAny_callSpecial?_slot (name := Str.ofString "__next__") hT PySem.F.slot_enumerate_next
    (wpAny_call_entry PySem.F.slot_enumerate_next hT PySem.F.entry_enumerate_next ?_ (PySem.F.args_enumerate_next_1 _))))
  show wpAny _ _ (field (.ref e) 2 >>= _) _ _ _
  refine PySem.wpAny_bind (wpAny_field he rfl (x := .ref it) rfl ?_)
  refine PySem.wpAny_bind (_root_.RZ.nextOf_tuple_end hh hit hl hx fun h' x he' hx' => ?_)
  obtain ⟨o, ho, hc⟩ := hx'
  refine PySem.wpAny_bind (wpAny_isInstance (T := "StopIteration") (b := true) ⟨o, ho, hc⟩ isSubtype_stop ?_)
  exact PySem.wpAny_pure (hQ _ he')
end
def ItTE (K : PySem.W.Frag) (a : Addr) : It :=
  ⟨fun i H => ∃ (xs : List V) (x : V), SqT K H a xs ∧ xs[i]? = some x, fun i H v H' => ∃ T x, v = .ref T ∧ H T = none ∧ H' = upd H T (.tup [.int (i : Nat), x]) ∧ ∀ xs, SqT K H a xs → xs[i]? = some x, fun i H => ∃ xs : List V, SqT K H a xs ∧ xs.length ≤ i⟩
theorem turn_TE {P : Program} {w : World} {K : PySem.W.Frag} {elts : List Expr} {kk : Nat} {tpos : Pos} (a e it : Addr) :
    Turn P w K (.Tuple elts kk tpos) (ItTE K a) [e, it] e (fun i h => (∃ old, IsEnum h e it ((i : Nat) : Int) old) ∧ h.IsTupleIter it a i ∧ e ≠ it ∧ e ≠ a ∧ a ≠ it) where
  mem := List.mem_cons_self
  obj := by
    rintro i h ⟨⟨old, he⟩, ⟨o, ho, hc, hd⟩, _⟩ b hb
    rcases (show b = e ∨ b = it by simpa using hb) with rfl | rfl
    · exact ⟨_, he, fun v q => nomatch q⟩
    · exact ⟨o, ho, fun v q => by rw [hd] at q; cases q⟩
  keep := by
    rintro i h h' ⟨⟨old, he⟩, ⟨o, ho, r⟩, ne⟩ k
    exact ⟨⟨old, k e (by simp) _ he⟩, ⟨o, k it (by simp) o ho, r⟩, ne⟩
  item := by
    intro X hP hw hK hc i pins s σ H E I hf st hg
    subst hP hw hK
    obtain ⟨⟨old, he⟩, hit, hne, hea, hai⟩ := st
    obtain ⟨xs, x, hq, hx⟩ := hg
    obtain ⟨its, rv, p, _⟩ := I.tuple hq
    obtain ⟨u, hu, ru⟩ := rv.get hx
    have hlen : i < its.length := (List.getElem?_eq_some_iff.mp hu).1
    have hel : e < s.heap.objs.size := Heap.lt_size he
    have hil : it < s.heap.objs.size := by
      obtain ⟨_, q, _⟩ := hit
      exact Heap.lt_size q
    have hef : e ∉ [it, a] := by simp [hne, hea]
    have D := Draws.tuple (prog := X.prog) (w := X.w) (A := X.A.in1) (I.ok.hd hc) it a hai its.toArray
    refine wpAny_pyNext_enum_itemD D he ⟨hit, p⟩ (by simpa using hlen) hne hef fun v h' tk hv ho hit' hT hsz hk => ?_
    have hvu : v = u := by
      have hv : its.toArray[i]? = some v := hv
      rw [show its.toArray[i]? = some u by simpa using hu] at hv
      exact (Option.some.inj hv).symm
    subst hvu
    refine ⟨_, rfl, wpAny_letOwnedTupleGo_enum (prog := X.prog) (w := X.w) (s := { s with heap := h', toks := tk + 1 }) ho fun h'' he' sb => ?_⟩
    have hT2 := (sb.2 _ (Nat.ne_of_gt hel)).trans hT
    have new : ObjOk X.prog X.w (upd H s.heap.objs.size (.tup [.int (i : Nat), x])) h'' s.heap.objs.size (.tup [.int (i : Nat), x]) :=
      ⟨by show 2 ≤ sizeLine; decide, [.int i tk, v], .cons ⟨_, rfl⟩ (.cons ru .nil), ⟨_, hT2, rfl, _, rfl⟩⟩
    have I1 := Inv.turnedNew (t' := tk + 1) I (ch := [e, it]) (fun b ob hb q => (sb.2 b (fun z => hb (by simp [z]))).trans (hk b ob (fun z => hb (by simp [z])) (fun z => hb (by simp [z])) q)) hf (Nat.le_refl _) new
    refine ⟨.ref s.heap.objs.size, _, I1, rfl, ⟨_, x, rfl, I.hok.fresh (Nat.le_refl _), rfl, fun ys hy => by rw [I.tuple_inj hy hq]; exact hx⟩, ⟨⟨v, ?_⟩, ?_, hne, hea, hai⟩, fun b hb => ?_⟩
    · rw [show ((i + 1 : Nat) : Int) = (i : Int) + 1 from rfl]
      exact he'
    · obtain ⟨o, q, r⟩ := hit'.1
      exact ⟨o, (sb.2 it (Ne.symm hne)).trans q, r⟩
    · have hb' : b < s.heap.objs.size := by
        rcases (show b = e ∨ b = it by simpa using hb) with rfl | rfl
        · exact hel
        · exact hil
      rw [upd_ne (Nat.ne_of_lt hb')]
      exact (hf b hb).1
  done := by
    intro X hP hw hK hc i pins s σ H E I hf st hg
    subst hP hw hK
    obtain ⟨⟨old, he⟩, hit, hne, hea, hai⟩ := st
    obtain ⟨xs, hq, hx⟩ := hg
    obtain ⟨its, rv, p, _⟩ := I.tuple hq
    have hl := rv.length
    obtain ⟨f0, f1, f2, f3, f4, f5⟩ := hf it (by simp)
    refine wpAny_pyNext_enum_endT (I.ok.hd hc) he hit p (by simp; omega) fun h' eb => ⟨rfl, I.turned (t' := s.toks) (fun b o hb q => eb b o hb q) f0 f1 f3 f4 f5⟩
  self := fun A i s Q E st h => by
    obtain ⟨⟨_, he⟩, _⟩ := st
    exact wpAny_pyIter_enum he h
def iEnT (K : PySem.W.Frag) (ta : TA) : TI := fun σ H R => ta σ H fun vs H1 => ∃ a xs, vs = [.ref a] ∧ SqT K H1 a xs ∧ R (ItTE K a) H1
theorem pi_enT {X : Cx} {e : Expr} {ta : TA} {p pos tpos : Pos} {elts : List Expr} {kk : Nat} (hg : Gl X "enumerate") (hm : X.mg "enumerate" = none) (ha : PA X [e] ta) (hs : starEach [e] X.env = [(false, eval e X.env)] := by rfl) :
    PI X (.Tuple elts kk tpos) (.Call (.Name "enumerate" p) [e] [] pos) (iEnT X.K ta) := by
  refine ⟨fun pins s σ H R I h => Call_ (ld_blt I hg hm boot_enumerate (PyProof.Rows.callWith_type1 (thn (ha.run pos pins s σ H _ I h) fun us s1 ⟨vs, H1, I1, r1, q1⟩ => ?_) hs rfl))⟩
  obtain ⟨a, xs, rfl, hq, q⟩ := q1
  obtain ⟨u, rfl, ru⟩ := vals1 r1
  obtain rfl : u = Value.ref a := ru
  obtain ⟨its, rv, p1, _⟩ := I1.tuple hq
  obtain ⟨o1, ho1, _⟩ := id p1
  have hal : a < s1.heap.objs.size := Heap.lt_size ho1
  refine call_enumT (items := its.toArray) p1 fun h' he hit hsz hk => wpAny_pyIter_enum he ?_
  have I2 : Inv X pins σ H1 { s1 with heap := h' } := Inv.kept (t' := s1.toks) I1 hk
  refine ⟨s1.heap.objs.size + 1, [s1.heap.objs.size + 1, s1.heap.objs.size], _, _, H1, rfl, I2, turn_TE a (s1.heap.objs.size + 1) s1.heap.objs.size, ⟨⟨.none, he⟩, hit, Nat.succ_ne_self _, Nat.ne_of_gt (Nat.lt_succ_of_lt hal), Nat.ne_of_lt hal⟩, fun b hb => ?_, q⟩
  have hle : s1.heap.objs.size ≤ b := by
    rcases (show b = s1.heap.objs.size + 1 ∨ b = s1.heap.objs.size by simpa using hb) with rfl | rfl
    · exact Nat.le_add_right _ _
    · exact Nat.le_refl _
  exact I1.fpOk hle (I1.hok.fresh hle)
theorem walk_TE {K : PySem.W.Frag} {a : Addr} {xs : List V} : Walk (ItTE K a) xs.length (fun H => SqT K H a xs) (YPair (fun i => some (.int (i : Nat))) (fun i => xs[i]?)) :=
  ⟨fun i H hi h => ⟨xs, _, h, List.getElem?_eq_getElem hi⟩, fun H h => ⟨xs, h, Nat.le_refl _⟩, fun i H v H' hi h y => by
    obtain ⟨T, x, e1, e2, e3, e4⟩ := y
    exact ⟨T, _, x, e1, e2, e3, rfl, e4 xs h⟩⟩
def EtE (K : PySem.W.Frag) (R : It → Hp → Prop) (vs : List V) (H1 : Hp) : Prop := ∃ a xs, vs = [.ref a] ∧ SqT K H1 a xs ∧ R (ItTE K a) H1
theorem w_iEt {K : PySem.W.Frag} {σ : L2.St} {H : Hp} {ta : TA} {R : It → Hp → Prop} (k : ta σ H fun vs H1 => EtE K R vs H1) : iEnT K ta σ H R := k
theorem w_iEte {K : PySem.W.Frag} {H : Hp} {R : It → Hp → Prop} {a : Addr} {xs : List V} (h : SqT K H a xs) (k : R (ItTE K a) H) : EtE K R [.ref a] H := ⟨a, xs, rfl, h, k⟩
theorem loopEt {σ : L2.St} {H : Hp} {D : Ends} {K : PySem.W.Frag} {g : TG} {tb : TS} {a : Addr} {xs : List V} (Pv : Nat → L2.St → Hp → Prop) (h0 : Pv 0 σ H) (hl : ∀ i σ H, i ≤ xs.length → Pv i σ H → SqT K H a xs)
    (hs : ∀ i x T σ H H', i < xs.length → xs[i]? = some x → Pv i σ H → H T = none → Sm H H' → H' T = some (.tup [.int (i : Nat), x]) → g (.ref T) σ H' fun σ2 H2 => tb (En (Pv (i + 1)) (RT D) (NX D) (Pv (i + 1))) σ2 H2)
    (hd : ∀ σ H, Pv xs.length σ H → NX D σ H) : Loop (ItTE K a) g tb D σ H :=
  for_it walk_TE Pv h0 hl (fun i x σ H H' hi p y => by
    obtain ⟨T, u, v, rfl, hT, rfl, h1, h2⟩ := y
    cases h1
    exact hs i v T σ H _ hi h2 p hT (sm_new hT) upd_same) hd
theorem lcEt {σ : L2.St} {H : Hp} {Q : VK} {K : PySem.W.Frag} {g : TG} {tt : TT} {te : TE} {vs : List Nat} {a : Addr} {xs : List V} (Pv : Addr → Nat → Hp → Prop) (h0 : ∀ D H', H D = none → Sm H H' → H' D = some (.lst []) → Pv D 0 H')
    (hl : ∀ D i H', H D = none → i ≤ xs.length → Pv D i H' → SqT K H' a xs)
    (hs : ∀ D i x T H1 H', H D = none → i < xs.length → xs[i]? = some x → Pv D i H1 → H1 T = none → Sm H1 H' → H' T = some (.tup [.int (i : Nat), x]) → g (.ref T) (wipe σ vs) H' fun σ2 H2 => LcGo vs σ σ2 (tt σ2 H2 fun b H3 => if b = true then te σ2 H3 fun y H4 => LcEnd D y (Pv D (i + 1)) H4 else Pv D (i + 1) H3))
    (hd : ∀ D H', H D = none → Pv D xs.length H' → Q (.ref D) H') : LcL (ItTE K a) g tt te vs σ H Q := fun D hD =>
  lc_it walk_TE (Pv D) (h0 D _ hD (sm_new hD) upd_same) (fun i H' hi p => hl D i H' hD hi p) (fun i x H1 H' hi p y => by
    obtain ⟨T, u, v, rfl, hT, rfl, h1, h2⟩ := y
    cases h1
    exact hs D i v T H1 _ hD hi h2 p hT (sm_new hT) upd_same) (fun H' p => hd D H' hD p)
local macro_rules | `(tactic| tm_at "rs") => `(tactic| first | with_reducible refine w_iEt ?_ | ((with_reducible refine' w_iEte ?h ?k); (case h => tm_at "rst")) | fail "no")

/-! repr of lists and tuples, where nothing is being shown -/
def gRep1 (K : PySem.W.Frag) : List V → Hp → VK → Prop := fun xs H Q => ∃ a d, xs = [.ref a] ∧ Dp K H (.ref a) d ∧ d.showable = true ∧ d.hasDict = false ∧ d.depth ≤ 3000 ∧ d.shown.length ≤ sizeLine ∧ Q (.str d.shown) H
def gRep (K : PySem.W.Frag) : List V → Hp → VK → Prop := fun xs H Q => gRep1 K xs H Q ∨ (xs = [.non] ∧ Q (.str "None") H)
theorem call_gRep1 {X : Cx} {K : PySem.W.Frag} (hK : X.K = K) (hg : X.A.guards = some []) (hu : X.A.units + 5000 < cLine) : CallR X (.builtin "repr") (gRep1 K) := by
  subst hK
  intro pins s σ H xs us Q I rs h
  obtain ⟨a, d, rfl, hd, hs, nd, hp, hz, q⟩ := h
  obtain ⟨u, rfl, ru⟩ := vals1 rs
  obtain rfl : u = Value.ref a := ru
  obtain ⟨as, r⟩ := Dp.reads I d _ _ hd rfl
  exact repr_of_reads' r hs (PyData.noDict_hsm nd) hg (by omega) (fun _ _ e => e) (fun h' u tk hk => ⟨.str _, H, Inv.kept (t' := tk) I hk, ⟨_, rfl⟩, q⟩) hz
theorem call_gRep {X : Cx} {K : PySem.W.Frag} (hK : X.K = K) (hg : X.A.guards = some []) (hu : X.A.units + 5000 < cLine) : CallR X (.builtin "repr") (gRep K) := by
  refine cr_or (call_gRep1 hK hg hu) ?_
  intro pins s σ H xs us Q I rs h
  obtain ⟨rfl, q⟩ := h
  obtain ⟨u, rfl, ru⟩ := vals1 rs
  obtain rfl : u = Value.none := ru
  exact PySem.P.repr_of_none ⟨.str _, H, I.tok _, ⟨_, rfl⟩, q⟩
theorem w_repN {K : PySem.W.Frag} {H : Hp} {Q : VK} (k : Q (.str "None") H) : gRep K [.non] H Q := .inr ⟨rfl, k⟩
theorem rp_ints : ∀ ns : List Int, (∀ n ∈ ns, n.natAbs < 10 ^ 15) → PyData.showableAll (ns.map .int) = true ∧ PyData.hasDictAll (ns.map .int) = false ∧ PyData.leavesShortAll 16 (ns.map .int) = true ∧ PyData.bulkAll (ns.map .int) = ns.length
  | [], _ => ⟨rfl, rfl, rfl, rfl⟩
  | n :: ns, h => by
    obtain ⟨h1, h2, h3, h4⟩ := rp_ints ns (fun m hm => h m (List.mem_cons_of_mem _ hm))
    have hn := h n List.mem_cons_self
    have e := int_text_length_le10 (k := 15) (by decide) hn
    have hs : (PyData.shown (.int n)).length ≤ 16 := by
      show (Str.ofString (toString n)).length ≤ 16
      rw [PySem.ofString_length]
      exact e
    have hl : n.natAbs.log2 < 1920 := PySem.Spec.log2_small (Nat.lt_of_lt_of_le hn (Nat.le_trans (show 10 ^ 15 ≤ 2 ^ 60 by decide) (Nat.pow_le_pow_right (by decide) (by decide))))
    refine ⟨?_, ?_, ?_, ?_⟩
    · simp [PyData.showableAll, PyData.showable, h1, hl]
    · simp [PyData.hasDictAll, PyData.hasDict, h2]
    · simp [PyData.leavesShortAll, PyData.leavesShort, h3, hs]
    · simp [PyData.bulkAll, PyData.bulk, h4]
      omega
theorem w_repInts {K : PySem.W.Frag} {H : Hp} {Q : VK} {a : Addr} {ns : List Int} (h : SqL K H a (ns.map V.int)) (b : ∀ n ∈ ns, n.natAbs < 10 ^ 15) (l : ns.length ≤ 1000) (k : Q (.str (PyData.shown (.list (ns.map .int)))) H) : gRep K [.ref a] H Q := by
  obtain ⟨h1, h2, h3, h4⟩ := rp_ints ns b
  have hb := PyData.shown_le_bulk 16 (by decide) (.list (ns.map .int)) (by simp [PyData.leavesShort, h3])
  refine .inl ⟨a, .list (ns.map .int), rfl, .lst h (dp_ints ns), by simp [PyData.showable, h1], by simp [PyData.hasDict, h2], ?_, sz_of ?_, k⟩
  · simp [PyData.depth, PySem.W.ke_depthAll]
  · rw [show PyData.bulk (.list (ns.map .int)) = ns.length by simp [PyData.bulk, h4]] at hb
    omega
theorem w_isiLst {K : PySem.W.Frag} {H : Hp} {Q : VK} {a : Addr} {xs : List V} (h : H a = some (.lst xs)) (k : Q (.bl true) H) : rIsi K [.ref a, .ty "list"] H Q := ⟨_, _, _, _, _, rfl, .ty _, .base (.lst h), kit_ty (by decide +kernel), k⟩
local macro_rules | `(tactic| tm_at "rs") => `(tactic| first | ((with_reducible refine' w_isiLst ?h ?k); (case h => tm_at "rlk")) | fail "no")

/-! data that can be shown: so deep, so many -/
structure ShD (d : PyData) (D N : Nat) : Prop where
  sh : d.showable = true
  nd : d.hasDict = false
  lv : d.leavesShort 600 = true
  dp : d.depth ≤ D
  bk : d.bulk ≤ N
structure ShL (ds : List PyData) (D N : Nat) : Prop where
  sh : PyData.showableAll ds = true
  nd : PyData.hasDictAll ds = false
  lv : PyData.leavesShortAll 600 ds = true
  dp : PyData.depthAll ds ≤ D
  bk : PyData.bulkAll ds ≤ N
theorem ShD.int {n : Int} {D : Nat} (h : n.natAbs < 10 ^ 500) : ShD (.int n) D 0 := by
  have e := int_text_length_le10 (k := 500) (by decide) h
  have hs : (PyData.shown (.int n)).length ≤ 600 := by
    show (Str.ofString (toString n)).length ≤ 600
    rw [PySem.ofString_length]
    omega
  have hl : n.natAbs.log2 < 1920 := PySem.Spec.log2_small (Nat.lt_of_lt_of_le h (by decide +kernel))
  exact ⟨by simp [PyData.showable, hl], by simp [PyData.hasDict], by simp [PyData.leavesShort, hs], by simp [PyData.depth], by simp [PyData.bulk]⟩
theorem ShD.str {x : Str} {D : Nat} (h : ∀ c ∈ x.cps.toList, c < 16 ^ 8) : ShD (.str x) D x.length := by
  refine ⟨by simp [PyData.showable], by simp [PyData.hasDict], ?_, by simp [PyData.depth], by simp [PyData.bulk]; exact Nat.le_refl _⟩
  simp only [PyData.leavesShort, List.all_eq_true, decide_eq_true_eq]
  exact h
theorem ShD.none {D : Nat} : ShD .none D 0 := ⟨rfl, rfl, rfl, by simp [PyData.depth], by simp [PyData.bulk]⟩
theorem ShL.nil {D : Nat} : ShL [] D 0 := ⟨rfl, rfl, rfl, by simp [PyData.depthAll], by simp [PyData.bulkAll]⟩
theorem ShL.cons {d : PyData} {ds : List PyData} {D N M : Nat} (h : ShD d D N) (k : ShL ds D M) : ShL (d :: ds) D (N + 1 + M) :=
  ⟨by simp [PyData.showableAll, h.sh, k.sh], by simp [PyData.hasDictAll, h.nd, k.nd], by simp [PyData.leavesShortAll, h.lv, k.lv], by
    have a := h.dp
    have b := k.dp
    simp only [PyData.depthAll]
    omega, by
    have a := h.bk
    have b := k.bk
    simp only [PyData.bulkAll]
    omega⟩
theorem ShL.up {ds : List PyData} {D D' N N' : Nat} (h : ShL ds D N) (a : D ≤ D') (b : N ≤ N') : ShL ds D' N' := ⟨h.sh, h.nd, h.lv, Nat.le_trans h.dp a, Nat.le_trans h.bk b⟩
theorem ShD.up {d : PyData} {D D' N N' : Nat} (h : ShD d D N) (a : D ≤ D') (b : N ≤ N') : ShD d D' N' := ⟨h.sh, h.nd, h.lv, Nat.le_trans h.dp a, Nat.le_trans h.bk b⟩
theorem ShL.tup {ds : List PyData} {D N : Nat} (h : ShL ds D N) : ShD (.tuple ds) (D + 1) N :=
  ⟨by simp [PyData.showable, h.sh], by simp [PyData.hasDict, h.nd], by simp [PyData.leavesShort, h.lv], by
    have a := h.dp
    simp only [PyData.depth]
    omega, by
    have b := h.bk
    simp only [PyData.bulk]
    omega⟩
theorem ShL.lst {ds : List PyData} {D N : Nat} (h : ShL ds D N) : ShD (.list ds) (D + 1) N :=
  ⟨by simp [PyData.showable, h.sh], by simp [PyData.hasDict, h.nd], by simp [PyData.leavesShort, h.lv], by
    have a := h.dp
    simp only [PyData.depth]
    omega, by
    have b := h.bk
    simp only [PyData.bulk]
    omega⟩
theorem ShL.all {D N : Nat} : ∀ {ds : List PyData}, (∀ d ∈ ds, ShD d D N) → ShL ds D (ds.length * (N + 1))
  | [], _ => by
    rw [List.length_nil, Nat.zero_mul]
    exact ShL.nil
  | d :: ds, h => by
    have a := ShL.cons (h d List.mem_cons_self) (ShL.all (ds := ds) fun x hx => h x (List.mem_cons_of_mem _ hx))
    refine a.up (Nat.le_refl _) ?_
    rw [List.length_cons, Nat.succ_mul]
    omega
theorem ShD.len {d : PyData} {D N : Nat} (h : ShD d D N) (b : N ≤ 27000) : d.shown.length ≤ sizeLine := by
  have e := PyData.shown_le_bulk 600 (by decide) d h.lv
  have e2 : (600 + 2) * d.bulk ≤ 602 * 27000 := Nat.mul_le_mul_left _ (Nat.le_trans h.bk b)
  have e3 : 602 * 27000 + 600 ≤ sizeLine := by decide
  omega
theorem w_repD {K : PySem.W.Frag} {H : Hp} {Q : VK} {a : Addr} {d : PyData} {D N : Nat} (h : Dp K H (.ref a) d) (s : ShD d D N) (hD : D ≤ 3000) (hN : N ≤ 27000) (k : Q (.str d.shown) H) : gRep K [.ref a] H Q :=
  .inl ⟨a, d, rfl, h, s.sh, s.nd, Nat.le_trans s.dp hD, s.len hN, k⟩
theorem ShL.nats {D : Nat} {l : List Nat} (h : ∀ n ∈ l, n < 10 ^ 500) : ShL (nD l) D l.length := by
  have e := ShL.all (ds := nD l) (D := D) (N := 0) fun d hd => by
    obtain ⟨n, hn, rfl⟩ := List.mem_map.mp hd
    exact ShD.int (by rw [Int.natAbs_natCast]; exact h n hn)
  refine e.up (Nat.le_refl _) ?_
  unfold nD
  rw [List.length_map]
  omega

/-! stands shown -/
def oD : Option (Nat × List Nat) → PyData
  | none => .none
  | some (k, cs) => .tuple [.int (k : Nat), .tuple (nD cs)]
def oS (o : Option (Nat × List Nat)) : Str := match o with
  | none => "None"
  | some _ => (oD o).shown
theorem StdAt.tpd {H : Hp} {v : V} {k : Nat} {cs : List Nat} (h : StdAt H v k cs) : TpD H (oD (some (k, cs))) v := by
  obtain ⟨p, t, rfl, a, b⟩ := h
  exact tpd_t a (tpl_cons tpd_i (tpl_cons (tpd_t b (tpl_nat cs)) tpl_nil))
theorem std_sh {k : Nat} {cs : List Nat} (hk : k < 10 ^ 500) (hc : ∀ c ∈ cs, c < 10 ^ 500) : ShD (oD (some (k, cs))) 2 (cs.length + 2) := by
  have e1 : ShD (.int (k : Nat)) 1 0 := ShD.int (by rw [Int.natAbs_natCast]; exact hk)
  have e2 : ShD (.tuple (nD cs)) 1 cs.length := (ShL.nats (D := 0) hc).tup
  exact ((ShL.cons e1 (ShL.cons e2 ShL.nil)).tup).up (Nat.le_refl _) (by omega)
theorem w_repStd {K : PySem.W.Frag} {H : Hp} {Q : VK} {v : V} {o : Option (Nat × List Nat)} (h : OStd H v o) (b : ∀ k cs, o = some (k, cs) → k < 10 ^ 500 ∧ cs.length ≤ 20 ∧ ∀ c ∈ cs, c < 10 ^ 500) (k : Q (.str (oS o)) H) : gRep K [v] H Q := by
  cases o with
  | none =>
    have h : v = .non := h
    subst h
    exact w_repN k
  | some p =>
    obtain ⟨n, cs⟩ := p
    obtain ⟨b1, b2, b3⟩ := b n cs rfl
    have h1 := h.tpd
    obtain ⟨p, t, rfl, _, _⟩ := id h
    exact w_repD (TpD.dp _ _ h1) (std_sh b1 b3) (by decide) (by omega) k
/-- where a step leads -/
theorem aft_ok {b : Nat} {rs : List Rw} {k n M : Nat} {cs es : List Nat} (hg : Prg b rs) (hc : cs.length = b) (hM : ∀ c ∈ cs, c ≤ M) (e : aftr rs k cs = some (n, es)) : n ≤ 14 ∧ es.length = b ∧ (∀ c ∈ es, c ≤ M + 1) ∧ n ≤ rs.length := by
  have h14 := hg.len
  cases hk : rs[k]? with
  | none =>
    unfold aftr at e
    rw [hk] at e
    cases e
  | some r =>
    have hro := hg.ok r (List.mem_of_getElem? hk)
    have hkl : k < rs.length := (List.getElem?_eq_some_iff.mp hk).1
    have up : ∀ c ∈ cs, c ≤ M + 1 := fun c hc => Nat.le_succ_of_le (hM c hc)
    have hgd : ∀ j, cs.getD j 0 ≤ M := fun j => by
      rw [List.getD_eq_getElem?_getD]
      cases h : cs[j]? with
      | none => exact Nat.zero_le _
      | some x => exact hM x (List.mem_of_getElem? h)
    cases r with
    | up j =>
      rw [aft_up hk] at e
      cases e
      refine ⟨by omega, by rw [List.length_set]; exact hc, fun c hc => ?_, by omega⟩
      rcases List.mem_or_eq_of_mem_set hc with h | h
      · exact up c h
      · have := hgd j
        omega
    | dn j =>
      by_cases z : cs.getD j 0 = 0
      · rw [aft_dn0 hk z] at e
        cases e
      · rw [aft_dn hk z] at e
        cases e
        refine ⟨by omega, by rw [List.length_set]; exact hc, fun c hc => ?_, by omega⟩
        rcases List.mem_or_eq_of_mem_set hc with h | h
        · exact up c h
        · have := hgd j
          omega
    | br j g =>
      have hg2 : g < rs.length := hro.2
      by_cases z : cs.getD j 0 = 0
      · rw [aft_br0 hk z] at e
        cases e
        exact ⟨by omega, hc, up, by omega⟩
      · rw [aft_br hk z] at e
        cases e
        exact ⟨by omega, hc, up, by omega⟩
    | go g =>
      have hg2 : g < rs.length := hro
      rw [aft_go hk] at e
      cases e
      exact ⟨by omega, hc, up, by omega⟩
    | st =>
      rw [aft_st hk] at e
      cases e

/-! runs -/
def runL (rs : List Rw) : Nat → Nat × List Nat → List (Nat × List Nat)
  | 0, s => [s]
  | n + 1, s => match aftr rs s.1 s.2 with
    | none => [s]
    | some t => s :: runL rs n t
theorem runL_0 (rs : List Rw) (s : Nat × List Nat) : runL rs 0 s = [s] := rfl
theorem runL_no {rs : List Rw} {s : Nat × List Nat} (h : aftr rs s.1 s.2 = none) (n : Nat) : runL rs n s = [s] := by
  cases n with
  | zero => rfl
  | succ n =>
    unfold runL
    rw [h]
theorem runL_go {rs : List Rw} {s t : Nat × List Nat} (h : aftr rs s.1 s.2 = some t) (n : Nat) : runL rs (n + 1) s = s :: runL rs n t := by
  rw [runL]
  rw [h]
theorem runL_head (rs : List Rw) (n : Nat) (s : Nat × List Nat) : ∃ l, runL rs n s = s :: l := by
  cases n with
  | zero => exact ⟨[], rfl⟩
  | succ n =>
    cases h : aftr rs s.1 s.2 with
    | none => exact ⟨[], runL_no h _⟩
    | some t => exact ⟨_, runL_go h n⟩
theorem runL_len (rs : List Rw) : ∀ (n : Nat) (s : Nat × List Nat), 1 ≤ (runL rs n s).length ∧ (runL rs n s).length ≤ n + 1
  | 0, s => ⟨Nat.le_refl _, Nat.le_refl _⟩
  | n + 1, s => by
    cases h : aftr rs s.1 s.2 with
    | none =>
      rw [runL_no h]
      exact ⟨Nat.le_refl _, Nat.le_add_left _ _⟩
    | some t =>
      rw [runL_go h, List.length_cons]
      have := (runL_len rs n t).2
      omega
theorem runL_take (rs : List Rw) : ∀ (n m : Nat) (s : Nat × List Nat), n ≤ m → runL rs n s = (runL rs m s).take (n + 1)
  | 0, m, s, _ => by
    obtain ⟨l, hl⟩ := runL_head rs m s
    rw [hl]
    rfl
  | n + 1, 0, s, h => absurd h (by omega)
  | n + 1, m + 1, s, h => by
    cases e : aftr rs s.1 s.2 with
    | none =>
      rw [runL_no e, runL_no e]
      rfl
    | some t =>
      rw [runL_go e, runL_go e, List.take_succ_cons, runL_take rs n m t (by omega)]
theorem runL_next {rs : List Rw} : ∀ {n : Nat} {s u v : Nat × List Nat} {i : Nat}, (runL rs n s)[i]? = some u → (runL rs n s)[i + 1]? = some v → aftr rs u.1 u.2 = some v
  | 0, s, u, v, i, _, h2 => by
    rw [runL_0] at h2
    cases h2
  | n + 1, s, u, v, i, h1, h2 => by
    cases e : aftr rs s.1 s.2 with
    | none =>
      rw [runL_no e] at h2
      cases h2
    | some t =>
      rw [runL_go e] at h1 h2
      cases i with
      | zero =>
        cases h1
        obtain ⟨l, hl⟩ := runL_head rs n t
        rw [hl] at h2
        cases h2
        exact e
      | succ i => exact runL_next (n := n) (s := t) h1 h2
/-- the word of a run by its last stand -/
def wordR (rs : List Rw) (s : Nat × List Nat) : Str := if rs[s.1]? = some .st then "stopped" else if aftr rs s.1 s.2 = none then "stuck" else "going"
/-- what a stand of a run keeps -/
structure SOk (b : Nat) (rs : List Rw) (M : Nat) (s : Nat × List Nat) : Prop where
  k : s.1 < rs.length
  l : s.2.length = b
  c : ∀ c ∈ s.2, c ≤ M
theorem aft_in {b : Nat} {rs : List Rw} {k : Nat} {cs : List Nat} {t : Nat × List Nat} (hg : Prg b rs) (e : aftr rs k cs = some t) : t.1 < rs.length := by
  cases hk : rs[k]? with
  | none =>
    unfold aftr at e
    rw [hk] at e
    cases e
  | some r =>
    have hro := hg.ok r (List.mem_of_getElem? hk)
    obtain ⟨us, r0, hfin, hend⟩ := hg.fin
    have hlen : rs.length = us.length + 1 := by rw [hfin, List.length_append]; rfl
    have hkl : k < rs.length := (List.getElem?_eq_some_iff.mp hk).1
    have nl : ¬ r.ends → k + 1 < rs.length := fun h => by
      apply Classical.byContradiction
      intro h2
      have : k = us.length := by omega
      rw [hfin, this, List.getElem?_append_right (Nat.le_refl _), Nat.sub_self] at hk
      cases hk
      exact h hend
    cases r with
    | up j =>
      rw [aft_up hk] at e
      cases e
      exact nl (fun h => h)
    | dn j =>
      by_cases z : cs.getD j 0 = 0
      · rw [aft_dn0 hk z] at e
        cases e
      · rw [aft_dn hk z] at e
        cases e
        exact nl (fun h => h)
    | br j g =>
      by_cases z : cs.getD j 0 = 0
      · rw [aft_br0 hk z] at e
        cases e
        exact hro.2
      · rw [aft_br hk z] at e
        cases e
        exact nl (fun h => h)
    | go g =>
      rw [aft_go hk] at e
      cases e
      exact hro
    | st =>
      rw [aft_st hk] at e
      cases e
theorem SOk.next {b : Nat} {rs : List Rw} {M : Nat} {s t : Nat × List Nat} (hg : Prg b rs) (h : SOk b rs M s) (e : aftr rs s.1 s.2 = some t) : SOk b rs (M + 1) t := by
  obtain ⟨n, es⟩ := t
  obtain ⟨_, e2, e3, _⟩ := aft_ok hg h.l h.c e
  exact ⟨aft_in hg e, e2, e3⟩
theorem SOk.up {b : Nat} {rs : List Rw} {M N : Nat} {s : Nat × List Nat} (h : SOk b rs M s) (l : M ≤ N) : SOk b rs N s := ⟨h.k, h.l, fun c hc => Nat.le_trans (h.c c hc) l⟩
theorem runL_ok {b : Nat} {rs : List Rw} (hg : Prg b rs) : ∀ {n M : Nat} {s : Nat × List Nat}, SOk b rs M s → ∀ t ∈ runL rs n s, SOk b rs (M + n) t
  | 0, M, s, h, t, ht => by
    rw [runL_0] at ht
    rw [List.mem_singleton.mp ht]
    exact h
  | n + 1, M, s, h, t, ht => by
    cases e : aftr rs s.1 s.2 with
    | none =>
      rw [runL_no e] at ht
      rw [List.mem_singleton.mp ht]
      exact h.up (Nat.le_add_right _ _)
    | some u =>
      rw [runL_go e] at ht
      rcases List.mem_cons.mp ht with rfl | ht
      · exact h.up (Nat.le_add_right _ _)
      · exact (runL_ok hg (h.next hg e) t ht).up (by omega)
theorem SOk.start {b : Nat} {rs : List Rw} {M : Nat} {bs : List Nat} (hg : Prg b rs) (hl : bs.length = b) (hc : ∀ c ∈ bs, c ≤ M) : SOk b rs M (0, bs) := ⟨hg.pos, hl, hc⟩
/-- a list of stands as told -/
abbrev SdL (H : Hp) (xs : List V) (ss : List (Nat × List Nat)) : Prop := Paired (fun x s => StdAt H x s.1 s.2) xs ss
theorem SdL.tk {H H' : Hp} {xs : List V} {ss : List (Nat × List Nat)} (h : SdL H xs ss) (e : Tk H H') : SdL H' xs ss := paired_mono (fun _ _ q => q.tk e) h
def sD (ss : List (Nat × List Nat)) : List PyData := ss.map fun s => oD (some s)
theorem SdL.dp {K : PySem.W.Frag} {H : Hp} : ∀ {xs : List V} {ss : List (Nat × List Nat)}, SdL H xs ss → DpAll K H xs (sD ss)
  | _, _, .nil => .nil
  | _, _, .cons a b => .cons (TpD.dp _ _ a.tpd) (SdL.dp b)
theorem sD_sh {ss : List (Nat × List Nat)} (h : ∀ s ∈ ss, s.1 < 10 ^ 500 ∧ s.2.length ≤ 5 ∧ ∀ c ∈ s.2, c < 10 ^ 500) : ShL (sD ss) 2 (ss.length * 8) := by
  have e := ShL.all (ds := sD ss) (D := 2) (N := 7) fun d hd => by
    obtain ⟨s, hs, rfl⟩ := List.mem_map.mp hd
    obtain ⟨h1, h2, h3⟩ := h s hs
    exact (std_sh h1 h3).up (Nat.le_refl _) (by omega)
  unfold sD at e ⊢
  rw [List.length_map] at e
  exact e
/-- a word and the stands -/
def wsD (w : Str) (ss : List (Nat × List Nat)) : PyData := .tuple [.str w, .list (sD ss)]
theorem wsD_dp {K : PySem.W.Frag} {H : Hp} {t L : Addr} {w : Str} {xs : List V} {ss : List (Nat × List Nat)} (h1 : H t = some (.tup [.str w, .ref L])) (h2 : H L = some (.lst xs)) (h3 : SdL H xs ss) : Dp K H (.ref t) (wsD w ss) :=
  .tup (st_of h1) (.cons (.str _) (.cons (.lst (sq_of h2) h3.dp) .nil))
theorem wsD_sh {w : Str} {ss : List (Nat × List Nat)} (hw : ∀ c ∈ w.cps.toList, c < 16 ^ 8) (h : ∀ s ∈ ss, s.1 < 10 ^ 500 ∧ s.2.length ≤ 5 ∧ ∀ c ∈ s.2, c < 10 ^ 500) : ShD (wsD w ss) 4 (w.length + ss.length * 8 + 2) :=
  ((ShL.cons ((ShD.str (D := 3) hw)) (ShL.cons ((sD_sh h).lst) ShL.nil)).tup).up (Nat.le_refl _) (by omega)
theorem wordR_ok (rs : List Rw) (s : Nat × List Nat) : (∀ c ∈ (wordR rs s).cps.toList, c < 16 ^ 8) ∧ (wordR rs s).length ≤ 7 := by
  have e : wordR rs s = "stopped" ∨ wordR rs s = "stuck" ∨ wordR rs s = "going" := by
    unfold wordR
    split
    · exact .inl rfl
    · split
      · exact .inr (.inl rfl)
      · exact .inr (.inr rfl)
  rcases e with e | e | e <;> rw [e] <;> decide +kernel
/-- a list's or a tuple's contents as a tuple -/
theorem w_gTpl2 {K : PySem.W.Frag} {H : Hp} {Q : VK} {p : Addr} {ys : List V} (h : H p = some (.lst ys) ∨ H p = some (.tup ys)) (k : ∀ l H', Sm H H' → H' l = some (.tup ys) → Q (.ref l) H') : gTpl K [.ref p] H Q := by
  rcases h with h | h
  · exact w_gTplL (sq_of h) fun l H' _ s g => k l H' s g
  · exact ⟨p, ys, rfl, .inr ⟨st_of h, k p H (Same.refl _) h⟩⟩
theorem w_len2 {K : PySem.W.Frag} {H : Hp} {Q : VK} {p : Addr} {ys : List V} (h : H p = some (.lst ys) ∨ H p = some (.tup ys)) (k : Q (.int (ys.length : Nat)) H) : gLen K [.ref p] H Q := by
  rcases h with h | h
  · exact w_lenL (sq_of h) k
  · exact w_lenT (st_of h) k
theorem wordR_st {rs : List Rw} {s : Nat × List Nat} (h : rs[s.1]? = some .st) : wordR rs s = "stopped" := if_pos h
theorem wordR_stuck {rs : List Rw} {s : Nat × List Nat} {r : Rw} (h : rs[s.1]? = some r) (n : r ≠ .st) (e : aftr rs s.1 s.2 = none) : wordR rs s = "stuck" := by
  unfold wordR
  rw [if_neg (by rw [h]; exact fun z => n (Option.some.inj z)), if_pos e]
theorem wordR_going {rs : List Rw} {s t : Nat × List Nat} (e : aftr rs s.1 s.2 = some t) : wordR rs s = "going" := by
  unfold wordR
  rw [if_neg (fun z => by rw [aft_st z] at e; cases e), if_neg (by rw [e]; exact fun z => nomatch z)]
theorem runL_more {rs : List Rw} {M : Nat} {bs : List Nat} {pre : List (Nat × List Nat)} {last t : Nat × List Nat} (h : runL rs M (0, bs) = pre ++ runL rs (M - pre.length) last) (e : aftr rs last.1 last.2 = some t) (l : pre.length + 1 ≤ M) : runL rs M (0, bs) = (pre ++ [last]) ++ runL rs (M - (pre ++ [last]).length) t := by
  have e1 : M - pre.length = (M - (pre ++ [last]).length) + 1 := by rw [List.length_append]; show _ = M - (pre.length + 1) + 1; omega
  rw [h, e1, runL_go e, List.append_assoc]
  rfl
theorem runL_end {rs : List Rw} {M : Nat} {bs : List Nat} {pre : List (Nat × List Nat)} {last : Nat × List Nat} (h : runL rs M (0, bs) = pre ++ runL rs (M - pre.length) last) (e : aftr rs last.1 last.2 = none ∨ M ≤ pre.length) : runL rs M (0, bs) = pre ++ [last] := by
  rw [h]
  rcases e with e | e
  · rw [runL_no e]
  · rw [show M - pre.length = 0 by omega, runL_0]
theorem bnd_ex : ∀ cs : List Nat, ∃ M, ∀ c ∈ cs, c ≤ M
  | [] => ⟨0, fun c hc => by cases hc⟩
  | x :: cs => by
    obtain ⟨M, hM⟩ := bnd_ex cs
    refine ⟨max x M, fun c hc => ?_⟩
    rcases List.mem_cons.mp hc with rfl | hc
    · omega
    · have := hM c hc
      omega
theorem aft_len {b : Nat} {rs : List Rw} {k : Nat} {cs : List Nat} {t : Nat × List Nat} (hg : Prg b rs) (hc : cs.length = b) (e : aftr rs k cs = some t) : t.2.length = b := by
  obtain ⟨M, hM⟩ := bnd_ex cs
  obtain ⟨n, es⟩ := t
  exact (aft_ok hg hc hM e).2.1
theorem snoc_inj {α : Type} {p q : List α} {x y : α} (h : p ++ [x] = q ++ [y]) : p = q ∧ x = y := by
  have := List.append_inj' h rfl
  exact ⟨this.1, by simpa using this.2⟩
/-- a shorter run -/
theorem run_short {rs : List Rw} {bs : List Nat} {M N : Nat} {pre pre2 : List (Nat × List Nat)} {last last2 : Nat × List Nat} (h : runL rs M (0, bs) = pre ++ [last]) (h2 : runL rs N (0, bs) = pre2 ++ [last2]) (l : N ≤ M) (s : N < pre.length) : pre2 ++ [last2] = (pre ++ [last]).take (N + 1) ∧ wordR rs last2 = "going" := by
  have e := runL_take rs N M (0, bs) l
  rw [h2, h] at e
  refine ⟨e, ?_⟩
  have hl : (pre2 ++ [last2]).length = N + 1 := by
    rw [e, List.length_take, List.length_append]
    show min (N + 1) (pre.length + 1) = _
    omega
  have hl2 : pre2.length = N := by
    rw [List.length_append] at hl
    have : pre2.length + 1 = N + 1 := hl
    omega
  have e1 : (pre ++ [last])[N]? = some last2 := by
    have e2 : (pre2 ++ [last2])[N]? = some last2 := by rw [List.getElem?_append_right (by omega), hl2, Nat.sub_self]; rfl
    rw [e, List.getElem?_take] at e2
    rw [if_pos (by omega)] at e2
    exact e2
  have hN1 : N + 1 < (pre ++ [last]).length := by
    rw [List.length_append]
    show N + 1 < pre.length + 1
    omega
  obtain ⟨v, e3⟩ : ∃ v, (pre ++ [last])[N + 1]? = some v := ⟨_, List.getElem?_eq_getElem hN1⟩
  rw [← h] at e1 e3
  exact wordR_going (runL_next e1 e3)
theorem run_same {rs : List Rw} {bs : List Nat} {M N : Nat} {pre pre2 : List (Nat × List Nat)} {last last2 : Nat × List Nat} (h : runL rs M (0, bs) = pre ++ [last]) (h2 : runL rs N (0, bs) = pre2 ++ [last2]) (l : N ≤ M) (s : pre.length ≤ N) : pre2 = pre ∧ last2 = last := by
  have e := runL_take rs N M (0, bs) l
  rw [h2, h, List.take_of_length_le (by rw [List.length_append]; show pre.length + 1 ≤ N + 1; omega)] at e
  exact snoc_inj e
theorem sok_sh {b M : Nat} {rs : List Rw} {ss : List (Nat × List Nat)} (hg : Prg b rs) (h : ∀ s ∈ ss, SOk b rs M s) (hM : M < 10 ^ 500) : ∀ s ∈ ss, s.1 < 10 ^ 500 ∧ s.2.length ≤ 5 ∧ ∀ c ∈ s.2, c < 10 ^ 500 := fun s hs => by
  obtain ⟨h1, h2, h3⟩ := h s hs
  have a := hg.len
  have b := hg.b5
  have big : 100 < 10 ^ 500 := by decide +kernel
  exact ⟨by omega, by omega, fun c hc => Nat.lt_of_le_of_lt (h3 c hc) hM⟩

/-! rows one later, behind a go -/
def Rw.inc : Rw → Rw
  | .br j g => .br j (g + 1)
  | .go g => .go (g + 1)
  | r => r
def shR (f : Nat) (rs : List Rw) : List Rw := .go (f + 1) :: rs.map Rw.inc
def sh1 (s : Nat × List Nat) : Nat × List Nat := (s.1 + 1, s.2)
theorem Rw.inc_ok {b n : Nat} : ∀ {r : Rw}, r.ok b n → r.inc.ok b (n + 1)
  | .up _, h => h
  | .dn _, h => h
  | .br _ _, h => ⟨h.1, Nat.succ_lt_succ h.2⟩
  | .go _, h => Nat.succ_lt_succ h
  | .st, _ => trivial
theorem shR_prg {b f : Nat} {rs : List Rw} (hg : Prg b rs) (hf : f < rs.length) (hl : rs.length < 14) : Prg b (shR f rs) := by
  have e : (shR f rs).length = rs.length + 1 := by
    show (rs.map Rw.inc).length + 1 = _
    rw [List.length_map]
  refine ⟨hg.b1, hg.b5, ?_, by omega, ?_⟩
  · rw [e]
    refine RwsOk.cons (r := Rw.go (f + 1)) (show f + 1 < rs.length + 1 by omega) fun r hr => ?_
    obtain ⟨q, hq, rfl⟩ := List.mem_map.mp hr
    exact Rw.inc_ok (hg.ok q hq)
  · obtain ⟨us, r, e1, e2⟩ := hg.fin
    refine ⟨.go (f + 1) :: us.map Rw.inc, r.inc, ?_, ?_⟩
    · show Rw.go (f + 1) :: rs.map Rw.inc = _
      rw [e1, List.map_append]
      rfl
    · cases r
      · exact e2
      · exact e2
      · exact e2
      · exact trivial
      · exact trivial
theorem shR_get {f k : Nat} {rs : List Rw} : (shR f rs)[k + 1]? = (rs[k]?).map Rw.inc := by
  show (rs.map Rw.inc)[k]? = _
  rw [List.getElem?_map]
theorem shR_aft {f k : Nat} {rs : List Rw} {cs : List Nat} : aftr (shR f rs) (k + 1) cs = (aftr rs k cs).map sh1 := by
  have e := @shR_get f k rs
  cases h : rs[k]? with
  | none =>
    rw [h] at e
    unfold aftr
    rw [e, h]
    rfl
  | some r =>
    rw [h] at e
    cases r with
    | up j => rw [aft_up e, aft_up h]; rfl
    | dn j =>
      by_cases z : cs.getD j 0 = 0
      · rw [aft_dn0 e z, aft_dn0 h z]; rfl
      · rw [aft_dn e z, aft_dn h z]; rfl
    | br j g =>
      have e : (shR f rs)[k + 1]? = some (.br j (g + 1)) := e
      by_cases z : cs.getD j 0 = 0
      · rw [aft_br0 e z, aft_br0 h z]; rfl
      · rw [aft_br e z, aft_br h z]; rfl
    | go g =>
      have e : (shR f rs)[k + 1]? = some (.go (g + 1)) := e
      rw [aft_go e, aft_go h]; rfl
    | st => rw [aft_st e, aft_st h]; rfl
theorem shR_run {f : Nat} {rs : List Rw} : ∀ (n : Nat) (s : Nat × List Nat), runL (shR f rs) n (sh1 s) = (runL rs n s).map sh1
  | 0, s => rfl
  | n + 1, s => by
    have e : aftr (shR f rs) (sh1 s).1 (sh1 s).2 = (aftr rs s.1 s.2).map sh1 := shR_aft
    cases h : aftr rs s.1 s.2 with
    | none =>
      rw [h] at e
      rw [runL_no e, runL_no h]
      rfl
    | some t =>
      rw [h] at e
      rw [runL_go e, runL_go h, shR_run n t]
      rfl
theorem shR_word {f : Nat} {rs : List Rw} (s : Nat × List Nat) : wordR (shR f rs) (sh1 s) = wordR rs s := by
  have e : aftr (shR f rs) (sh1 s).1 (sh1 s).2 = (aftr rs s.1 s.2).map sh1 := shR_aft
  cases h : aftr rs s.1 s.2 with
  | some t =>
    rw [h] at e
    rw [wordR_going e, wordR_going h]
  | none =>
    rw [h] at e
    have g := @shR_get f s.1 rs
    cases hk : rs[s.1]? with
    | none =>
      rw [hk] at g
      have g : (shR f rs)[(sh1 s).1]? = none := g
      unfold wordR
      rw [if_neg (by rw [g]; exact fun z => nomatch z), if_pos (show aftr (shR f rs) (sh1 s).1 (sh1 s).2 = none from e), if_neg (by rw [hk]; exact fun z => nomatch z), if_pos h]
    | some r =>
      rw [hk] at g
      have g : (shR f rs)[(sh1 s).1]? = some r.inc := g
      by_cases z : r = .st
      · subst z
        rw [wordR_st g, wordR_st hk]
      · rw [wordR_stuck hk z h, wordR_stuck g (by cases r <;> first | exact absurd rfl z | exact fun w => nomatch w) e]
theorem runL_drop {rs : List Rw} : ∀ {n i : Nat} {s u : Nat × List Nat}, (runL rs n s)[i]? = some u → (runL rs n s).drop i = runL rs (n - i) u
  | n, 0, s, u, h => by
    obtain ⟨l, hl⟩ := runL_head rs n s
    rw [hl] at h
    cases h
    rfl
  | 0, i + 1, s, u, h => by
    rw [runL_0] at h
    cases h
  | n + 1, i + 1, s, u, h => by
    cases e : aftr rs s.1 s.2 with
    | none =>
      rw [runL_no e] at h
      cases h
    | some t =>
      rw [runL_go e] at h ⊢
      rw [List.drop_succ_cons, Nat.succ_sub_succ]
      exact runL_drop (n := n) h
/-- a run from a stand amid, led to by a go -/
theorem run_from {rs : List Rw} {M i : Nat} {bs : List Nat} {pre : List (Nat × List Nat)} {last u : Nat × List Nat} (h : runL rs M (0, bs) = pre ++ [last]) (hu : (pre ++ [last])[i]? = some u) :
    runL (shR u.1 rs) ((pre ++ [last]).length - i) (0, u.2) = (0, u.2) :: ((pre ++ [last]).drop i).map sh1 := by
  have hi := (List.getElem?_eq_some_iff.mp hu).1
  have e1 : aftr (shR u.1 rs) 0 u.2 = some (u.1 + 1, u.2) := aft_go (by rfl)
  obtain ⟨n, hn⟩ : ∃ n, (pre ++ [last]).length - i = n + 1 := ⟨(pre ++ [last]).length - i - 1, by omega⟩
  have e2 := shR_run (f := u.1) (rs := rs) n u
  rw [hn, runL_go e1]
  rw [show ((u.1 + 1, u.2) : Nat × List Nat) = sh1 u from rfl, e2]
  have hd : (pre ++ [last]).drop i = runL rs (M - i) u := by
    rw [← h]
    exact runL_drop (by rw [h]; exact hu)
  have hl : (runL rs (M - i) u).length = n + 1 := by rw [← hd, List.length_drop]; exact hn
  have h2 : n ≤ M - i := by
    have := (runL_len rs (M - i) u).2
    omega
  rw [hd, runL_take rs n (M - i) u h2, List.take_of_length_le (by omega)]
theorem cl_nats : ∀ l : List Nat, PyData.canLayAll0 (nD l) = true ∧ PyData.depthAll (nD l) = 0
  | [] => ⟨rfl, rfl⟩
  | x :: l => by
    obtain ⟨h1, h2⟩ := cl_nats l
    unfold nD at h1 h2
    exact ⟨by simp [nD, PyData.canLayAll0, PyData.canLay0, h1], by simp [nD, PyData.depthAll, PyData.depth, h2]⟩
theorem std_cl (s : Nat × List Nat) : (oD (some s)).canLay0 = true ∧ (oD (some s)).depth = 2 := by
  obtain ⟨k, cs⟩ := s
  obtain ⟨h1, h2⟩ := cl_nats cs
  exact ⟨by simp [oD, PyData.canLayAll0, PyData.canLay0, h1], by simp [oD, PyData.depthAll, PyData.depth, h2]⟩
theorem std_shaped (s : Nat × List Nat) : SeqAt.shaped (oD (some s)) = true := by
  obtain ⟨h1, h2⟩ := std_cl s
  show ((oD (some s)).canLay0 && decide ((oD (some s)).depth ≤ 64)) = true
  rw [h1, h2]
  rfl
theorem sds_cl : ∀ ss : List (Nat × List Nat), PyData.canLayAll0 (sD ss) = true ∧ PyData.depthAll (sD ss) ≤ 2
  | [] => ⟨rfl, by simp [sD, PyData.depthAll]⟩
  | s :: ss => by
    obtain ⟨h1, h2⟩ := sds_cl ss
    obtain ⟨h3, h4⟩ := std_cl s
    unfold sD at h1 h2
    refine ⟨by simp [sD, PyData.canLayAll0, h3, h1], ?_⟩
    simp only [sD, List.map_cons, PyData.depthAll]
    omega
theorem sds_shaped (ss : List (Nat × List Nat)) : SeqAt.shaped (.list (sD ss)) = true := by
  obtain ⟨h1, h2⟩ := sds_cl ss
  have h3 : (PyData.list (sD ss)).depth ≤ 64 := by
    simp only [PyData.depth]
    omega
  show ((PyData.list (sD ss)).canLay0 && decide ((PyData.list (sD ss)).depth ≤ 64)) = true
  rw [Bool.and_eq_true]
  exact ⟨by simp only [PyData.canLay0]; exact h1, decide_eq_true h3⟩
theorem RwAt.inc {H : Hp} {v : V} {r : Rw} (h : RwAt H v r) (z : r.inc = r) : RwAt H v r.inc := by
  rw [z]
  exact h

/-! rows alike -/
theorem str_beq {a c : Str} (h : a ≠ c) : (a == c) = false := by simpa using h
theorem rw_eqv (r q : Rw) : PyData.eqv (.tuple r.ds) (.tuple q.ds) = decide (r = q) := by
  have n12 := str_beq (show Str.ofString "raise" ≠ Str.ofString "lower" by decide +kernel)
  have n13 := str_beq (show Str.ofString "raise" ≠ Str.ofString "if" by decide +kernel)
  have n14 := str_beq (show Str.ofString "raise" ≠ Str.ofString "go" by decide +kernel)
  have n15 := str_beq (show Str.ofString "raise" ≠ Str.ofString "stop" by decide +kernel)
  have n23 := str_beq (show Str.ofString "lower" ≠ Str.ofString "if" by decide +kernel)
  have n24 := str_beq (show Str.ofString "lower" ≠ Str.ofString "go" by decide +kernel)
  have n25 := str_beq (show Str.ofString "lower" ≠ Str.ofString "stop" by decide +kernel)
  have n34 := str_beq (show Str.ofString "if" ≠ Str.ofString "go" by decide +kernel)
  have n35 := str_beq (show Str.ofString "if" ≠ Str.ofString "stop" by decide +kernel)
  have n45 := str_beq (show Str.ofString "go" ≠ Str.ofString "stop" by decide +kernel)
  have n21 := str_beq (show Str.ofString "lower" ≠ Str.ofString "raise" by decide +kernel)
  have n31 := str_beq (show Str.ofString "if" ≠ Str.ofString "raise" by decide +kernel)
  have n41 := str_beq (show Str.ofString "go" ≠ Str.ofString "raise" by decide +kernel)
  have n51 := str_beq (show Str.ofString "stop" ≠ Str.ofString "raise" by decide +kernel)
  have n32 := str_beq (show Str.ofString "if" ≠ Str.ofString "lower" by decide +kernel)
  have n42 := str_beq (show Str.ofString "go" ≠ Str.ofString "lower" by decide +kernel)
  have n52 := str_beq (show Str.ofString "stop" ≠ Str.ofString "lower" by decide +kernel)
  have n43 := str_beq (show Str.ofString "go" ≠ Str.ofString "if" by decide +kernel)
  have n53 := str_beq (show Str.ofString "stop" ≠ Str.ofString "if" by decide +kernel)
  have n54 := str_beq (show Str.ofString "stop" ≠ Str.ofString "go" by decide +kernel)
  have ib : ∀ a b : Nat, ((a : Int) == (b : Int)) = decide (a = b) := fun a b => by
    by_cases h : a = b
    · subst h; simp
    · rw [decide_eq_false h]
      simpa using fun e : (a : Int) = b => h (Int.ofNat_inj.mp e)
  cases r <;> cases q <;> simp [Rw.ds, PyData.eqv, PyData.eqvAll, n12, n13, n14, n15, n23, n24, n25, n34, n35, n45, n21, n31, n41, n51, n32, n42, n52, n43, n53, n54, ib]
theorem rw_cl (r : Rw) : (PyData.tuple r.ds).canLay0 = true ∧ (PyData.tuple r.ds).depth ≤ 1 := by
  have s1 : PyData.strOk (Str.ofString "raise") = true := by decide +kernel
  have s2 : PyData.strOk (Str.ofString "lower") = true := by decide +kernel
  have s3 : PyData.strOk (Str.ofString "if") = true := by decide +kernel
  have s4 : PyData.strOk (Str.ofString "go") = true := by decide +kernel
  have s5 : PyData.strOk (Str.ofString "stop") = true := by decide +kernel
  cases r <;> simp [Rw.ds, PyData.canLay0, PyData.canLayAll0, PyData.depth, PyData.depthAll, s1, s2, s3, s4, s5]
theorem rw_shaped (r : Rw) : SeqAt.shaped (.tuple r.ds) = true := by
  obtain ⟨h1, h2⟩ := rw_cl r
  show ((PyData.tuple r.ds).canLay0 && decide ((PyData.tuple r.ds).depth ≤ 64)) = true
  rw [h1, decide_eq_true (by omega)]
  rfl
def rsD (rs : List Rw) : List PyData := rs.map fun r => .tuple r.ds
theorem rs_cl : ∀ rs : List Rw, PyData.canLayAll0 (rsD rs) = true ∧ PyData.depthAll (rsD rs) ≤ 1
  | [] => ⟨rfl, by simp [rsD, PyData.depthAll]⟩
  | r :: rs => by
    obtain ⟨h1, h2⟩ := rs_cl rs
    obtain ⟨h3, h4⟩ := rw_cl r
    unfold rsD at h1 h2
    refine ⟨by simp [rsD, PyData.canLayAll0, h3, h1], ?_⟩
    simp only [rsD, List.map_cons, PyData.depthAll]
    omega
theorem rs_eqv : ∀ rs qs : List Rw, PyData.eqvAll (rsD rs) (rsD qs) = decide (rs = qs)
  | [], [] => by simp [rsD, PyData.eqvAll]
  | [], _ :: _ => by simp [rsD, PyData.eqvAll]
  | _ :: _, [] => by simp [rsD, PyData.eqvAll]
  | r :: rs, q :: qs => by
    have e := rs_eqv rs qs
    unfold rsD at e
    simp only [rsD, List.map_cons, PyData.eqvAll, rw_eqv, e]
    by_cases h1 : r = q <;> by_cases h2 : rs = qs <;> simp [h1, h2]
theorem rs_shaped (rs : List Rw) : SeqAt.shaped (.tuple (rsD rs)) = true := by
  obtain ⟨h1, h2⟩ := rs_cl rs
  have h3 : (PyData.tuple (rsD rs)).depth ≤ 64 := by
    simp only [PyData.depth]
    omega
  show ((PyData.tuple (rsD rs)).canLay0 && decide ((PyData.tuple (rsD rs)).depth ≤ 64)) = true
  rw [Bool.and_eq_true]
  exact ⟨by simp only [PyData.canLay0]; exact h1, decide_eq_true h3⟩
theorem RwAt.dp {K : PySem.W.Frag} {H : Hp} {v : V} {r : Rw} (h : RwAt H v r) : Dp K H v (.tuple r.ds) := by
  obtain ⟨p, rfl, q⟩ := h
  exact .tup (st_of q) (TpL.dp _ _ r.tpl)
theorem RwsAt.dp {K : PySem.W.Frag} {H : Hp} : ∀ {vs : List V} {rs : List Rw}, RwsAt H vs rs → DpAll K H vs (rsD rs)
  | _, _, .nil => .nil
  | _, _, .cons a b => .cons a.dp (RwsAt.dp b)
/-- rows as tuples compared -/
theorem w_eqRows {K : PySem.W.Frag} {H : Hp} {Q : VK} {a b : Addr} {us vs : List V} {rs qs : List Rw} (h1 : H a = some (.tup us)) (h2 : RwsAt H us rs) (h3 : H b = some (.tup vs)) (h4 : RwsAt H vs qs) (k : Q (.bl (decide (rs = qs))) H) : gEq K (.ref a) (.ref b) H Q := by
  refine .inr ⟨.tuple (rsD rs), .tuple (rsD qs), .tup (st_of h1) h2.dp, .tup (st_of h3) h4.dp, rs_shaped rs, rs_shaped qs, ?_⟩
  rw [PyData.eqv, rs_eqv]
  exact k
theorem w_neRows {K : PySem.W.Frag} {H : Hp} {Q : VK} {a b : Addr} {us vs : List V} {rs : List Rw} (h1 : H a = some (.tup us)) (h2 : RwsAt H us rs) (h3 : H b = some (.tup vs)) (h4 : RwsAt H vs rs) (k : Q (.bl false) H) : gNe K (.ref a) (.ref b) H Q := by
  refine .inr ⟨.tuple (rsD rs), .tuple (rsD rs), .tup (st_of h1) h2.dp, .tup (st_of h3) h4.dp, rs_shaped rs, rs_shaped rs, ?_⟩
  rw [PyData.eqv, rs_eqv, decide_eq_true rfl]
  exact k
/-- a row against another one -/
theorem w_eqRow {K : PySem.W.Frag} {H : Hp} {Q : VK} {a b : Addr} {r q : Rw} (h1 : H a = some (.tup r.vs)) (h2 : H b = some (.tup q.vs)) (k : Q (.bl (decide (r = q))) H) : gEq K (.ref a) (.ref b) H Q := by
  refine .inr ⟨.tuple r.ds, .tuple q.ds, (rw_one h1).dp, (rw_one h2).dp, rw_shaped r, rw_shaped q, ?_⟩
  rw [rw_eqv]
  exact k
/-- the places of a row among rows -/
def plc (rs : List Rw) (q : Rw) (i : Nat) : List Nat := (List.range i).filter fun k => decide (rs[k]? = some q)
theorem plc_succ {rs : List Rw} {q : Rw} {i : Nat} : plc rs q (i + 1) = plc rs q i ++ (if rs[i]? = some q then [i] else []) := by
  unfold plc
  rw [List.range_succ, List.filter_append]
  by_cases h : rs[i]? = some q
  · rw [if_pos h, List.filter_cons_of_pos (by rw [decide_eq_true h]), List.filter_nil]
  · rw [if_neg h, List.filter_cons_of_neg (by rw [decide_eq_false h]; exact Bool.false_ne_true), List.filter_nil]
def mvR (w : Str) (j : Nat) : Rw := if w = "raise" then .up j else .dn j
theorem prc_eq {K : PySem.W.Frag} {C D : Addr} (a : PrC K C) (b : PrC K D) : C = D := ClsN.uniq a b

/-! f-strings -/
def JoE (ts : List TE) (acc : Str) (σ : L2.St) (Q : Str → Hp → Prop) (x : V) (H : Hp) : Prop := ∃ y : Str, x = .str y ∧ (acc ++ y).length ≤ sizeLine ∧ tJs ts (acc ++ y) σ H Q
def FmE (Q : VK) (x : V) (H : Hp) : Prop := (∃ y : Str, x = .str y ∧ y.length ≤ sizeLine ∧ Q (.str y) H) ∨ ∃ i : Int, x = .int i ∧ i.natAbs.log2 < 1920 ∧ Q (.str (toString i)) H
section
variable {σ : L2.St} {H : Hp} {Q : VK} {QS : Str → Hp → Prop} {ts : List TE} {t : TE} {acc y : Str} {i : Int}
theorem w_js (k : tJs ts Str.empty σ H fun out H1 => Q (.str out) H1) : (fun σ H Q => tJs ts Str.empty σ H fun out H1 => Q (.str out) H1 : TE) σ H Q := k
theorem w_j0 (k : QS acc H) : tJs [] acc σ H QS := k
theorem w_jc (k : t σ H (JoE ts acc σ QS)) : tJs (t :: ts) acc σ H QS := k
theorem w_je (z : (acc ++ y).length ≤ sizeLine) (k : tJs ts (acc ++ y) σ H QS) : JoE ts acc σ QS (.str y) H := ⟨y, rfl, z, k⟩
theorem str_e0 {y : Str} : Str.empty ++ y = y := by
  cases y with
  | mk c =>
    show Str.mk (#[] ++ c) = _
    rw [Array.empty_append]
theorem w_je0 (z : y.length ≤ sizeLine) (k : tJs ts y σ H QS) : JoE ts Str.empty σ QS (.str y) H := ⟨y, rfl, by rw [str_e0]; exact z, by rw [str_e0]; exact k⟩
theorem w_fm (k : t σ H (FmE Q)) : tFmt t σ H Q := k
theorem w_fmS (z : y.length ≤ sizeLine) (k : Q (.str y) H) : FmE Q (.str y) H := .inl ⟨y, rfl, z, k⟩
theorem w_fmI (z : i.natAbs.log2 < 1920) (k : Q (.str (toString i)) H) : FmE Q (.int i) H := .inr ⟨i, rfl, z, k⟩
theorem log_i64 (h : i.natAbs < 2 ^ 64) : i.natAbs.log2 < 1920 := PySem.Spec.log2_small (Nat.lt_of_lt_of_le h (by decide +kernel))
end
theorem tos_le {i : Int} (h : i.natAbs < 2 ^ 64) : (Str.ofString (toString i)).length ≤ 25 := by
  have e := int_text_length_le10 (k := 20) (by decide) (Nat.lt_of_lt_of_le h (show 2 ^ 64 ≤ 10 ^ 20 by decide))
  rw [PySem.ofString_length]
  omega
theorem sz_app {a b : Str} (h : b.length ≤ 25) (k : a.length ≤ 1000) : (a ++ b).length ≤ sizeLine := by
  rw [app_len]
  exact sz_of (by omega)
local macro_rules | `(tactic| tm_at "rsl") => `(tactic| first | with_reducible assumption | exact sz_of (by decide) | (apply sz_of; omega) | ((refine sz_app (tos_le ?h) ?i); (case h => omega); (case i => first | omega | decide)) | ((apply sz_of); (simp only [app_len]); omega) | fail "no")
local macro_rules | `(tactic| tm_at "rs") => `(tactic| first | with_reducible refine w_js ?_ | with_reducible refine w_jc ?_ | with_reducible refine w_j0 ?_ | with_reducible refine w_fm ?_ | ((with_reducible refine w_je0 ?h ?_); (case h => tm_at "rsl")) | ((with_reducible refine w_je ?h ?_); (case h => tm_at "rsl")) | ((with_reducible refine w_fmS ?h ?_); (case h => tm_at "rsl")) | ((with_reducible refine w_fmI ?h ?_); (case h => (apply log_i64; omega))) | fail "no")

/-! a letter and a number; lists of such -/
theorem low_tos (i : Int) : Low (Str.ofString (toString i)) := fun c hc => by
  rw [signs_ofString] at hc
  obtain ⟨ch, h, rfl⟩ := List.mem_map.mp hc
  exact int_ascii i ch h
def nmS (c : Str) (j : Nat) : Str := c ++ Str.ofString (toString ((j : Nat) : Int))
def stV (l : List Str) : List V := l.map V.str
def stD (l : List Str) : List PyData := l.map PyData.str
theorem stV_len (l : List Str) : (stV l).length = l.length := List.length_map _
theorem stV_app (l m : List Str) : stV (l ++ m) = stV l ++ stV m := List.map_append
theorem stV_snoc (l : List Str) (x : Str) : stV (l ++ [x]) = stV l ++ [V.str x] := List.map_append
theorem stV_dp {K : PySem.W.Frag} {H : Hp} : ∀ l : List Str, DpAll K H (stV l) (stD l)
  | [] => .nil
  | z :: l => .cons (.str z) (stV_dp l)
/-- plain texts of few signs -/
def NmOk (l : List Str) : Prop := ∀ z ∈ l, Low z ∧ z.length ≤ 40
theorem NmOk.app {l m : List Str} (h : NmOk l) (k : NmOk m) : NmOk (l ++ m) := fun z hz => (List.mem_append.mp hz).elim (h z) (k z)
theorem nms_ok {c : Str} (hc : Low c) (lc : c.length ≤ 10) {l : List Nat} (h : ∀ n ∈ l, n < 1000) : NmOk (l.map (nmS c)) := fun z hz => by
  obtain ⟨n, hn, rfl⟩ := List.mem_map.mp hz
  have h1 := h n hn
  refine ⟨hc.app (low_tos _), ?_⟩
  unfold nmS
  rw [app_len]
  have := tos_le (i := ((n : Nat) : Int)) (by omega)
  omega
theorem NmOk.shl {l : List Str} (h : NmOk l) (hl : l.length ≤ 200) {D : Nat} : ShL (stD l) D 8200 := by
  have e := ShL.all (ds := stD l) (D := D) (N := 40) fun d hd => by
    obtain ⟨z, hz, rfl⟩ := List.mem_map.mp hd
    exact (ShD.str (D := D) fun c hc => Nat.lt_trans ((h z hz).1 c hc) (by decide)).up (Nat.le_refl _) (h z hz).2
  refine e.up (Nat.le_refl _) ?_
  have : (stD l).length = l.length := List.length_map _
  rw [this]
  omega
theorem w_repNm {K : PySem.W.Frag} {H : Hp} {Q : VK} {a : Addr} {l : List Str} (h : SqL K H a (stV l)) (o : NmOk l) (hl : l.length ≤ 200) (k : Q (.str (PyData.shown (.list (stD l)))) H) : gRep K [.ref a] H Q :=
  w_repD (.lst h (stV_dp l)) (o.shl hl (D := 1)).lst (by decide) (by decide) k
/-! list(range(n)) -/
def LrE (Q : VK) (x : V) (H : Hp) : Prop := ∃ n, x = .int n ∧ (RgOk 0 n ∧ ∀ q, H q = none → Q (.ref q) (upd H q (.lst (rgV 0 n))))
theorem w_lrg {ta : TE} {σ : L2.St} {H : Hp} {Q : VK} (k : ta σ H (LrE Q)) : tLstRg (tRg1 ta) σ H Q := k
theorem rg_nV (n : Nat) : rgV 0 ((n : Nat) : Int) = nV (List.range n) := by
  unfold rgV nV
  rw [show (((n : Nat) : Int) - 0).toNat = n by omega]
  refine List.map_congr_left fun i _ => ?_
  rw [Int.zero_add]
theorem w_lre {n : Nat} {H : Hp} {Q : VK} (h : n ≤ 10000) (k : ∀ p H', H p = none → Sm H H' → H' p = some (.lst (nV (List.range n))) → Q (.ref p) H') : LrE Q (.int (n : Nat)) H :=
  ⟨_, rfl, RgOk.of_le (by decide) (by omega) (by decide) (by omega), fun p hp => k p _ hp (sm_new hp) (by rw [upd_same, rg_nV])⟩
local macro_rules | `(tactic| tm_at "rs") => `(tactic| first | with_reducible refine w_lrg ?_ | ((with_reducible refine' w_lre ?h (fun _ _ _ _ _ => ?k)); (case h => omega)) | fail "no")

theorem w_isiNb {K : PySem.W.Frag} {H : Hp} {Q : VK} (k : Q (.bl false) H) : rIsi K [.non, .ty "bool"] H Q := ⟨_, _, _, _, _, rfl, .ty _, .base .non, kit_ty (by decide +kernel), k⟩
theorem w_neNN {K : PySem.W.Frag} {H : Hp} {Q : VK} (k : Q (.bl false) H) : gNe K .non .non H Q := .inl ⟨rfl, by simpa using k⟩
theorem w_neN {K : PySem.W.Frag} {H : Hp} {Q : VK} {a b : Addr} {l : List Nat} (h1 : SqL K H a (nV l)) (h2 : SqL K H b (nV l)) (k : Q (.bl false) H) : gNe K (.ref a) (.ref b) H Q := by
  obtain ⟨c1, c2⟩ := cl_nats l
  have sh : SeqAt.shaped (.list (nD l)) = true := by
    have h3 : (PyData.list (nD l)).depth ≤ 64 := by
      simp only [PyData.depth]
      omega
    show ((PyData.list (nD l)).canLay0 && decide ((PyData.list (nD l)).depth ≤ 64)) = true
    rw [Bool.and_eq_true]
    exact ⟨by simp only [PyData.canLay0]; exact c1, decide_eq_true h3⟩
  exact w_neSame (.lst h1 (TpL.dp _ _ (tpl_nat (H := H) l))) (.lst h2 (TpL.dp _ _ (tpl_nat (H := H) l))) sh k
local macro_rules | `(tactic| tm_at "rs") => `(tactic| first | with_reducible refine w_isiNb ?_ | with_reducible refine w_neNN ?_ | fail "no")
theorem mv_iff {w : Str} {j : Nat} {r : Rw} (hw : w = "raise" ∨ w = "lower") : r = mvR w j ↔ r.word = w ∧ r.vs[1]? = some (.int (j : Int)) := by
  have hl : ¬ ((Str.ofString "lower") = Str.ofString "raise") := by decide +kernel
  rcases hw with rfl | rfl
  · have e : mvR (Str.ofString "raise") j = .up j := if_pos rfl
    show r = mvR (Str.ofString "raise") j ↔ _
    rw [e]
    constructor
    · rintro rfl
      exact ⟨rfl, rfl⟩
    · rintro ⟨h1, h2⟩
      cases r
      · cases h2
        rfl
      · exact absurd (show Str.ofString "lower" = Str.ofString "raise" from h1) (by decide +kernel)
      · exact absurd (show Str.ofString "if" = Str.ofString "raise" from h1) (by decide +kernel)
      · exact absurd (show Str.ofString "go" = Str.ofString "raise" from h1) (by decide +kernel)
      · exact absurd (show Str.ofString "stop" = Str.ofString "raise" from h1) (by decide +kernel)
  · have e : mvR (Str.ofString "lower") j = .dn j := if_neg hl
    show r = mvR (Str.ofString "lower") j ↔ _
    rw [e]
    constructor
    · rintro rfl
      exact ⟨rfl, rfl⟩
    · rintro ⟨h1, h2⟩
      cases r
      · exact absurd (show Str.ofString "raise" = Str.ofString "lower" from h1) (by decide +kernel)
      · cases h2
        rfl
      · exact absurd (show Str.ofString "if" = Str.ofString "lower" from h1) (by decide +kernel)
      · exact absurd (show Str.ofString "go" = Str.ofString "lower" from h1) (by decide +kernel)
      · exact absurd (show Str.ofString "stop" = Str.ofString "lower" from h1) (by decide +kernel)
theorem mv_vs {w : Str} {j : Nat} (hw : w = "raise" ∨ w = "lower") : (mvR w j).vs = [.str w, .int (j : Int)] := by
  have hl : ¬ ((Str.ofString "lower") = Str.ofString "raise") := by decide +kernel
  rcases hw with rfl | rfl
  · show (mvR (Str.ofString "raise") j).vs = _
    rw [show mvR (Str.ofString "raise") j = .up j from if_pos rfl]
    rfl
  · show (mvR (Str.ofString "lower") j).vs = _
    rw [show mvR (Str.ofString "lower") j = .dn j from if_neg hl]
    rfl
theorem mv_one {w : Str} {r : Rw} (hw : w = "raise" ∨ w = "lower") (e : r.word = w) : ∃ j : Nat, r.vs[1]? = some (.int (j : Int)) := by
  have h : r.word = "raise" ∨ r.word = "lower" := by rw [e]; exact hw
  cases r with
  | up j => exact ⟨j, rfl⟩
  | dn j => exact ⟨j, rfl⟩
  | br j g => exact absurd (show (Str.ofString "if" = Str.ofString "raise" ∨ Str.ofString "if" = Str.ofString "lower") from h) (by decide +kernel)
  | go g => exact absurd (show (Str.ofString "go" = Str.ofString "raise" ∨ Str.ofString "go" = Str.ofString "lower") from h) (by decide +kernel)
  | st => exact absurd (show (Str.ofString "stop" = Str.ofString "raise" ∨ Str.ofString "stop" = Str.ofString "lower") from h) (by decide +kernel)

/-! which boxes are asked -/
def isAsk (rs : List Rw) (j k : Nat) : Bool := match rs[k]? with
  | some (.br i g) => decide (i = j) && decide (g ≠ k + 1)
  | _ => false
def askB (rs : List Rw) (j n : Nat) : Bool := (List.range n).any (isAsk rs j)
def asked (m : Nat) (rs : List Rw) : List Nat := (List.range m).filter fun j => askB rs j rs.length
theorem askB_succ {rs : List Rw} {j n : Nat} : askB rs j (n + 1) = (askB rs j n || isAsk rs j n) := by
  unfold askB
  rw [List.range_succ, List.any_append]
  simp
theorem isAsk_br {rs : List Rw} {j k i g : Nat} (h : rs[k]? = some (.br i g)) : isAsk rs j k = (decide (i = j) && decide (g ≠ k + 1)) := by
  unfold isAsk
  rw [h]
theorem isAsk_no {rs : List Rw} {j k : Nat} {r : Rw} (h : rs[k]? = some r) (n : ∀ i g, r ≠ .br i g) : isAsk rs j k = false := by
  unfold isAsk
  rw [h]
  cases r <;> first | rfl | exact absurd rfl (n _ _)
theorem askB_lt {rs : List Rw} {j m n i : Nat} (ho : RwsOk m n rs) (h : askB rs j i = true) : j < m := by
  obtain ⟨k, hk, q⟩ := List.any_eq_true.mp h
  unfold isAsk at q
  cases e : rs[k]? with
  | none => rw [e] at q; cases q
  | some r =>
    rw [e] at q
    have o := ho r (List.mem_of_getElem? e)
    cases r with
    | br a g =>
      have q := (Bool.and_eq_true_iff.mp q).1
      rw [← of_decide_eq_true q]
      exact o.1
    | _ => cases q
theorem asked_lt {m : Nat} {rs : List Rw} : ∀ j ∈ asked m rs, j < m := fun j hj => List.mem_range.mp (List.mem_filter.mp hj).1
theorem asked_len {m : Nat} {rs : List Rw} : (asked m rs).length ≤ m := by
  have := List.length_filter_le (fun j => askB rs j rs.length) (List.range m)
  rw [List.length_range] at this
  exact this
theorem range_lt : ∀ m : Nat, (List.range m).Pairwise (· < ·)
  | 0 => .nil
  | m + 1 => by
    rw [List.range_succ]
    refine List.pairwise_append.mpr ⟨range_lt m, by simp, fun a ha b hb => ?_⟩
    rw [List.mem_singleton.mp hb]
    exact List.mem_range.mp ha
theorem asked_pw {m : Nat} {rs : List Rw} : (asked m rs).Pairwise (· < ·) := (range_lt m).filter _
/-- two rising lists of the same numbers -/
theorem rise_uniq : ∀ {l k : List Int}, l.Pairwise (· < ·) → k.Pairwise (· < ·) → (∀ x, x ∈ l ↔ x ∈ k) → l = k
  | [], [], _, _, _ => rfl
  | [], y :: k, _, _, h => by have := (h y).mpr List.mem_cons_self; cases this
  | x :: l, [], _, _, h => by have := (h x).mp List.mem_cons_self; cases this
  | x :: l, y :: k, p, q, h => by
    have p1 := List.pairwise_cons.mp p
    have q1 := List.pairwise_cons.mp q
    have e : x = y := by
      have h1 := (h x).mp List.mem_cons_self
      have h2 := (h y).mpr List.mem_cons_self
      rcases List.mem_cons.mp h1 with e | h1
      · exact e
      rcases List.mem_cons.mp h2 with e | h2
      · exact e.symm
      have a := q1.1 x h1
      have b := p1.1 y h2
      omega
    subst e
    refine congrArg (x :: ·) (rise_uniq p1.2 q1.2 fun z => ?_)
    constructor
    · intro hz
      rcases List.mem_cons.mp ((h z).mp (List.mem_cons_of_mem _ hz)) with e | h2
      · have := p1.1 z hz
        omega
      · exact h2
    · intro hz
      rcases List.mem_cons.mp ((h z).mpr (List.mem_cons_of_mem _ hz)) with e | h2
      · have := q1.1 z hz
        omega
      · exact h2
theorem pw_strict : ∀ {l : List Int}, l.Pairwise (· ≤ ·) → l.Nodup → l.Pairwise (· < ·)
  | [], _, _ => .nil
  | x :: l, p, n => by
    have p1 := List.pairwise_cons.mp p
    have n1 := List.nodup_cons.mp n
    refine List.pairwise_cons.mpr ⟨fun y hy => ?_, pw_strict p1.2 n1.2⟩
    have a := p1.1 y hy
    have b : x ≠ y := fun e => n1.1 (e ▸ hy)
    omega
def natI (l : List Nat) : List Int := l.map fun n => ((n : Nat) : Int)
theorem natI_V (l : List Nat) : (natI l).map V.int = nV l := by
  unfold natI nV
  rw [List.map_map]
  rfl
theorem natI_mem {l : List Nat} {x : Int} : x ∈ natI l ↔ ∃ n ∈ l, x = ((n : Nat) : Int) := by
  unfold natI
  rw [List.mem_map]
  exact ⟨fun ⟨n, h, e⟩ => ⟨n, h, e.symm⟩, fun ⟨n, h, e⟩ => ⟨n, h, e.symm⟩⟩
theorem sort_asked {ys : List Int} {ks l : List Nat} (p : ys.Perm (natI ks)) (s : ys.Pairwise (· ≤ ·)) (n : ks.Nodup) (hl : l.Pairwise (· < ·)) (h : ∀ j, j ∈ ks ↔ j ∈ l) : ys = natI l := by
  have nk : (natI ks).Nodup := by
    unfold natI
    rw [List.nodup_iff_pairwise_ne] at n ⊢
    refine List.pairwise_map.mpr (n.imp fun a => ?_)
    omega
  have ny : ys.Nodup := p.nodup_iff.mpr nk
  refine rise_uniq (pw_strict s ny) ?_ fun x => ?_
  · unfold natI
    exact List.pairwise_map.mpr (hl.imp fun a => by omega)
  · rw [p.mem_iff, natI_mem, natI_mem]
    exact ⟨fun ⟨n, a, b⟩ => ⟨n, (h n).mp a, b⟩, fun ⟨n, a, b⟩ => ⟨n, (h n).mpr a, b⟩⟩
/-! a dict with numbers as keys -/
def nKey (n : Nat) : Key := Sum.inl ((n : Nat) : Int)
theorem nKey_inj {a b : Nat} (h : nKey a = nKey b) : a = b := by
  have := Sum.inl.inj h
  omega
theorem putK_old {kvs : List (Key × V)} {k : Key} {v : V} (h : k ∈ kvs.map (·.1)) : (putK kvs k v).map (·.1) = kvs.map (·.1) := by
  obtain ⟨p, hp, e⟩ := List.mem_map.mp h
  unfold putK
  rw [if_pos (List.any_eq_true.mpr ⟨p, hp, decide_eq_true e⟩), List.map_map]
  refine List.map_congr_left fun x _ => ?_
  show (if x.1 = k then (x.1, v) else x).1 = x.1
  split <;> rfl
theorem putK_new {kvs : List (Key × V)} {k : Key} {v : V} (h : ¬ k ∈ kvs.map (·.1)) : (putK kvs k v).map (·.1) = kvs.map (·.1) ++ [k] := by
  unfold putK
  rw [if_neg fun q => ?_, List.map_append]
  · rfl
  · obtain ⟨p, hp, e⟩ := List.any_eq_true.mp q
    exact h (List.mem_map.mpr ⟨p, hp, of_decide_eq_true e⟩)
theorem w_dpeN {D : Ends} {σ : L2.St} {H : Hp} {a : Addr} {n : Nat} {v : V} {kvs : List (Key × V)} (h : H a = some (.dK kvs)) (l : kvs.length < sizeLine) (k : ∀ H', Kp a H H' → H' a = some (.dK (putK kvs (nKey n) v)) → NX D σ H') : DpE D σ v (.ref a) (.int (n : Nat)) H :=
  ⟨a, _, rfl, .inl ⟨kvs, nKey n, h, rfl, l, rfl⟩, k _ kp_upd upd_same⟩
def gSrtD : List V → Hp → VK → Prop := fun xs H Q => ∃ (a : Addr) (kvs : List (Key × V)) (ks : List Int), xs = [.ref a] ∧ Rd H a (.dK kvs) ∧ kvs.map (·.1) = ks.map Sum.inl ∧ ks.length < 64 ∧
    ∀ (ys : List Int) (p : Addr), ys.Perm ks → ys.Pairwise (· ≤ ·) → H p = none → Q (.ref p) (upd H p (.lst (ys.map V.int)))
theorem call_gSrtD {X : Cx} (hc : X.calm = true) : CallR X (.builtin "sorted") gSrtD := call_sortedDI hc
theorem w_srtD {H : Hp} {Q : VK} {a : Addr} {kvs : List (Key × V)} {ks l : List Nat} (h : H a = some (.dK kvs)) (e : kvs.map (·.1) = ks.map nKey) (z : ks.length < 64) (n : ks.Nodup) (hl : l.Pairwise (· < ·)) (hm : ∀ j, j ∈ ks ↔ j ∈ l) (k : ∀ p H', H p = none → Sm H H' → H' p = some (.lst (nV l)) → Q (.ref p) H') : gSrtD [.ref a] H Q := by
  refine ⟨a, kvs, natI ks, rfl, .inl h, ?_, by unfold natI; rw [List.length_map]; exact z, fun ys p pr sr np => ?_⟩
  · rw [e]
    unfold natI
    rw [List.map_map]
    rfl
  · rw [sort_asked pr sr n hl hm, natI_V]
    exact k p _ np (sm_new np) upd_same
/-! lists of numbers against the empty one -/
theorem w_neNil {K : PySem.W.Frag} {H : Hp} {Q : VK} {a b : Addr} {l : List Nat} (h1 : SqL K H a (nV l)) (h2 : SqL K H b []) (k : Q (.bl (decide (l ≠ []))) H) : gNe K (.ref a) (.ref b) H Q := by
  have sh : ∀ m : List Nat, SeqAt.shaped (.list (nD m)) = true := fun m => by
    obtain ⟨c1, c2⟩ := cl_nats m
    have h3 : (PyData.list (nD m)).depth ≤ 64 := by
      simp only [PyData.depth]
      omega
    show ((PyData.list (nD m)).canLay0 && decide ((PyData.list (nD m)).depth ≤ 64)) = true
    rw [Bool.and_eq_true]
    exact ⟨by simp only [PyData.canLay0]; exact c1, decide_eq_true h3⟩
  refine .inr ⟨.list (nD l), .list (nD []), .lst h1 (TpL.dp _ _ (tpl_nat (H := H) l)), .lst h2 .nil, sh l, sh [], ?_⟩
  have e : (!PyData.eqv (.list (nD l)) (.list (nD []))) = decide (l ≠ []) := by
    cases l <;> simp [nD, PyData.eqv, PyData.eqvAll]
  rw [e]
  exact k
/-! str of a number -/
def gStrN : List V → Hp → VK → Prop := fun xs H Q => ∃ i : Int, xs = [.int i] ∧ i.natAbs.log2 < 1920 ∧ Q (.str (toString i)) H
theorem call_gStrN {X : Cx} : CallR X (.type "str") gStrN := call_str_int
theorem w_strN {i : Int} {H : Hp} {Q : VK} (h : i.natAbs < 2 ^ 64) (k : Q (.str (Str.ofString (toString i))) H) : gStrN [.int i] H Q := ⟨i, rfl, log_i64 h, k⟩
theorem sz_add {a b : Str} (h : b.length ≤ 25) (k : a.length ≤ 1000) : a.length + b.length ≤ sizeLine := sz_of (by omega)
local macro_rules | `(tactic| tm_at "rs") => `(tactic| first | ((with_reducible refine' w_dpeN ?h ?l (fun _ _ _ => ?k)); (case h => tm_at "rlk"); (case l => tm_at "rsz")) | ((with_reducible refine' w_neNil ?h ?l ?k); (case h => tm_at "rsq"); (case l => tm_at "rsq")) | ((with_reducible refine w_strN ?h ?_); (case h => omega)) | ((with_reducible refine w_addS ?h ?_); (case h => (refine sz_add (tos_le ?i) ?j; (case i => omega); (case j => first | omega | decide)))) | fail "no")

/-! sayings: a word, two sides -/
def SayC (K : PySem.W.Frag) (C : Addr) : Prop := ClsN K "Saying" C ["word", "left", "right"]
def SayAt (K : PySem.W.Frag) (H : Hp) (v : V) (w : Str) (l r : V) : Prop := ∃ p C dx, v = .ref p ∧ SayC K C ∧ H p = some (.ins C dx [("word", .str w), ("left", l), ("right", r)])
theorem SayAt.sm {K : PySem.W.Frag} {H H' : Hp} {v l r : V} {w : Str} (h : SayAt K H v w l r) (e : Sm H H') : SayAt K H' v w l r := by
  obtain ⟨p, C, dx, rfl, c, q⟩ := h
  exact ⟨p, C, dx, rfl, c, e _ _ q⟩
theorem SayAt.kpL {K : PySem.W.Frag} {H H' : Hp} {v l r : V} {w : Str} {b : Addr} {ys : List V} (h : SayAt K H v w l r) (hb : H b = some (.lst ys)) (e : Kp b H H') : SayAt K H' v w l r := by
  obtain ⟨p, C, dx, rfl, c, q⟩ := h
  exact ⟨p, C, dx, rfl, c, e _ _ (by intro z; rw [z, hb] at q; cases q) q⟩
theorem w_fWord {K : PySem.W.Frag} {H : Hp} {Q : VK} {v l r : V} {w : Str} (h : SayAt K H v w l r) (k : Q (.str w) H) : FldE K "word" Q v H := by
  obtain ⟨p, C, dx, rfl, c, q⟩ := h
  exact ⟨p, C, dx, _, _, rfl, q, c.cl, c.na _ (by simp), rfl, k⟩
theorem w_fLeft {K : PySem.W.Frag} {H : Hp} {Q : VK} {v l r : V} {w : Str} (h : SayAt K H v w l r) (k : Q l H) : FldE K "left" Q v H := by
  obtain ⟨p, C, dx, rfl, c, q⟩ := h
  exact ⟨p, C, dx, _, _, rfl, q, c.cl, c.na _ (by simp), rfl, k⟩
theorem w_fRight {K : PySem.W.Frag} {H : Hp} {Q : VK} {v l r : V} {w : Str} (h : SayAt K H v w l r) (k : Q r H) : FldE K "right" Q v H := by
  obtain ⟨p, C, dx, rfl, c, q⟩ := h
  exact ⟨p, C, dx, _, _, rfl, q, c.cl, c.na _ (by simp), rfl, k⟩
local macro_rules | `(tactic| tm_at "rsay") => `(tactic| first | with_reducible assumption | ((refine' SayAt.sm ?sa ?sb); (case sb => with_reducible assumption); (case sa => tm_at "rsay")) | fail "no")
local macro_rules | `(tactic| tm_at "rs") => `(tactic| first | ((with_reducible refine' w_fWord ?h ?k); (case h => tm_at "rsay")) | ((with_reducible refine' w_fLeft ?h ?k); (case h => tm_at "rsay")) | ((with_reducible refine' w_fRight ?h ?k); (case h => tm_at "rsay")) | fail "no")

/-! a stack of terms to be worked off, the top first -/
def WkOk (kvs : List (Key × V)) (g : Str → Nat) (r : Nat) : List (Tm × Bool) → List Nat → Prop
  | [], N => N = [r]
  | (t, false) :: S, N => TmOk kvs g t ∧ WkOk kvs g r S (ev g t :: N)
  | (t, true) :: S, N => ∃ (w : Str) (a b : Tm) (x y : Nat) (M : List Nat), t = .op w a b ∧ N = y :: x :: M ∧ CmOk w x y ∧ WkOk kvs g r S (cm w x y :: M)
def wk : Tm × Bool → Nat
  | (t, false) => t.wt
  | (_, true) => 1
def wks (S : List (Tm × Bool)) : Nat := (S.map wk).sum
theorem wk_pos (s : Tm × Bool) : 1 ≤ wk s := by
  obtain ⟨t, b⟩ := s
  cases b
  · exact t.wt_pos
  · exact Nat.le_refl _
theorem wks_len : ∀ S : List (Tm × Bool), S.length ≤ wks S
  | [] => Nat.le_refl _
  | s :: S => by
    have h1 := wks_len S
    have h2 := wk_pos s
    show S.length + 1 ≤ wk s + wks S
    omega
theorem wks_cons (s : Tm × Bool) (S : List (Tm × Bool)) : wks (s :: S) = wk s + wks S := rfl
/-- what lies on the stack, the top last -/
def StAt (K : PySem.W.Frag) (H : Hp) (q : V) (s : Tm × Bool) : Prop := ∃ p x, q = .ref p ∧ H p = some (.tup [x, .bl s.2]) ∧ TmAt K H s.1 x
theorem StAt.imp {K : PySem.W.Frag} {H H' : Hp} {q : V} {s : Tm × Bool} (h : ∀ p xs, H p = some (.tup xs) → H' p = some (.tup xs)) (r : StAt K H q s) : StAt K H' q s := by
  obtain ⟨p, x, e, k, t⟩ := r
  exact ⟨p, x, e, h _ _ k, t.imp h⟩
theorem tup_kpL {H H' : Hp} {b : Addr} {ys : List V} (hb : H b = some (.lst ys)) (e : Kp b H H') : ∀ p xs, H p = some (.tup xs) → H' p = some (.tup xs) := fun p xs q => e _ _ (by
  intro z
  rw [z, hb] at q
  cases q) q
theorem tup_sm {H H' : Hp} (e : Sm H H') : ∀ p xs, H p = some (.tup xs) → H' p = some (.tup xs) := fun p xs q => e _ _ q

/-! sayings of the word same, terms summed -/
def SayT (K : PySem.W.Frag) (H : Hp) (v : V) (ab : Tm × Tm) : Prop := ∃ l r, SayAt K H v "same" l r ∧ TmAt K H ab.1 l ∧ TmAt K H ab.2 r
theorem SayT.sm {K : PySem.W.Frag} {H H' : Hp} {v : V} {ab : Tm × Tm} (h : SayT K H v ab) (e : Sm H H') : SayT K H' v ab := by
  obtain ⟨l, r, a, b, c⟩ := h
  exact ⟨l, r, a.sm e, b.sm e, c.sm e⟩
def TmsAt (K : PySem.W.Frag) (H : Hp) (vs : List V) (ts : List Tm) : Prop := Paired (fun v t => TmAt K H t v) vs ts
theorem TmsAt.sm {K : PySem.W.Frag} {H H' : Hp} {vs : List V} {ts : List Tm} (h : TmsAt K H vs ts) (e : Sm H H') : TmsAt K H' vs ts := paired_mono (fun _ _ q => q.sm e) h
theorem TmsAt.kpL {K : PySem.W.Frag} {H H' : Hp} {vs : List V} {ts : List Tm} {b : Addr} {ys : List V} (h : TmsAt K H vs ts) (hb : H b = some (.lst ys)) (e : Kp b H H') : TmsAt K H' vs ts := paired_mono (fun _ _ q => q.kpL hb e) h
theorem TmsAt.add {K : PySem.W.Frag} {H : Hp} {vs : List V} {ts : List Tm} {v : V} {t : Tm} (h : TmsAt K H vs ts) (e : TmAt K H t v) : TmsAt K H (vs ++ [v]) (ts ++ [t]) := paired_app h (.cons e .nil)
def sumT : List Tm → Tm
  | [] => .num 0
  | t :: ts => ts.foldl (fun a b => .op "plus" a b) t
theorem sumT_one (t : Tm) : sumT [t] = t := rfl
theorem sumT_add {ts : List Tm} {t : Tm} (h : ts ≠ []) : sumT (ts ++ [t]) = .op "plus" (sumT ts) t := by
  cases ts with
  | nil => exact absurd rfl h
  | cons a as =>
    show (as ++ [t]).foldl _ a = _
    rw [List.foldl_append]
    rfl
def sqT (ab : Tm × Tm) : Tm := .op "plus" (.op "times" ab.1 ab.1) (.op "times" ab.2 ab.2)
def prT (ab : Tm × Tm) : Tm := .op "times" (.num 2) (.op "times" ab.1 ab.2)

/-! sayings: a word and two terms; lists of them -/
abbrev SyW := Str × Tm × Tm
def SyAt (K : PySem.W.Frag) (H : Hp) (v : V) (s : SyW) : Prop := ∃ l r, SayAt K H v s.1 l r ∧ TmAt K H s.2.1 l ∧ TmAt K H s.2.2 r
theorem SyAt.sm {K : PySem.W.Frag} {H H' : Hp} {v : V} {s : SyW} (h : SyAt K H v s) (e : Sm H H') : SyAt K H' v s := by
  obtain ⟨l, r, a, b, c⟩ := h
  exact ⟨l, r, a.sm e, b.sm e, c.sm e⟩
theorem SyAt.kpL {K : PySem.W.Frag} {H H' : Hp} {v : V} {s : SyW} {b : Addr} {ys : List V} (h : SyAt K H v s) (hb : H b = some (.lst ys)) (e : Kp b H H') : SyAt K H' v s := by
  obtain ⟨l, r, p, q, t⟩ := h
  exact ⟨l, r, p.kpL hb e, q.kpL hb e, t.kpL hb e⟩
def SysAt (K : PySem.W.Frag) (H : Hp) (vs : List V) (ss : List SyW) : Prop := Paired (SyAt K H) vs ss
theorem SysAt.sm {K : PySem.W.Frag} {H H' : Hp} {vs : List V} {ss : List SyW} (h : SysAt K H vs ss) (e : Sm H H') : SysAt K H' vs ss := paired_mono (fun _ _ q => q.sm e) h
theorem SysAt.kpL {K : PySem.W.Frag} {H H' : Hp} {vs : List V} {ss : List SyW} {b : Addr} {ys : List V} (h : SysAt K H vs ss) (hb : H b = some (.lst ys)) (e : Kp b H H') : SysAt K H' vs ss := paired_mono (fun _ _ q => q.kpL hb e) h
theorem SysAt.len {K : PySem.W.Frag} {H : Hp} {vs : List V} {ss : List SyW} (h : SysAt K H vs ss) : vs.length = ss.length := paired_len h
theorem SysAt.app {K : PySem.W.Frag} {H : Hp} {vs us : List V} {ss ts : List SyW} (h : SysAt K H vs ss) (k : SysAt K H us ts) : SysAt K H (vs ++ us) (ss ++ ts) := paired_app h k
theorem w_newOp {K : PySem.W.Frag} {H : Hp} {Q : VK} {w : Str} {x y : V} {a b : Tm} (ha : TmAt K H a x) (hb : TmAt K H b y) (k : ∀ p H', H p = none → Sm H H' → TmAt K H' (.op w a b) (.ref p) → Q (.ref p) H') : NewT [.str w, x, y] H Q :=
  w_newT (sz_of (Nat.le_of_ble_eq_true rfl)) fun p H' np sm g => k p H' np sm (tm_op g (ha.sm sm) (hb.sm sm))
theorem w_newNum {K : PySem.W.Frag} {H : Hp} {Q : VK} {n : Nat} (k : ∀ p H', H p = none → Sm H H' → TmAt K H' (.num n) (.ref p) → Q (.ref p) H') : NewT [.str "num", .int ((n : Nat) : Int)] H Q :=
  w_newT (sz_of (Nat.le_of_ble_eq_true rfl)) fun p H' np sm g => k p H' np sm (tm_num g)
theorem w_newNm {K : PySem.W.Frag} {H : Hp} {Q : VK} {z : Str} (k : ∀ p H', H p = none → Sm H H' → TmAt K H' (.name z) (.ref p) → Q (.ref p) H') : NewT [.str "name", .str z] H Q :=
  w_newT (sz_of (Nat.le_of_ble_eq_true rfl)) fun p H' np sm g => k p H' np sm (tm_name g)
theorem w_newS0 {K : PySem.W.Frag} {H : Hp} {Q : VK} (k : ∀ p H' vs, H p = none → Sm H H' → H' p = some (.lst vs) → SysAt K H' vs [] → vs.length = 0 → Q (.ref p) H') : NewL [] H Q :=
  w_newL (sz_of (Nat.le_of_ble_eq_true rfl)) fun p H' np sm g => k p H' _ np sm g .nil rfl
theorem w_newS1 {K : PySem.W.Frag} {H : Hp} {Q : VK} {x : V} {s : SyW} (hs : SyAt K H x s) (k : ∀ p H' vs, H p = none → Sm H H' → H' p = some (.lst vs) → SysAt K H' vs [s] → vs.length = 1 → Q (.ref p) H') : NewL [x] H Q :=
  w_newL (sz_of (Nat.le_of_ble_eq_true rfl)) fun p H' np sm g => k p H' _ np sm g (.cons (hs.sm sm) .nil) rfl
theorem w_newS2 {K : PySem.W.Frag} {H : Hp} {Q : VK} {x y : V} {s t : SyW} (hs : SyAt K H x s) (ht : SyAt K H y t) (k : ∀ p H' vs, H p = none → Sm H H' → H' p = some (.lst vs) → SysAt K H' vs [s, t] → vs.length = 2 → Q (.ref p) H') : NewL [x, y] H Q :=
  w_newL (sz_of (Nat.le_of_ble_eq_true rfl)) fun p H' np sm g => k p H' _ np sm g (.cons (hs.sm sm) (.cons (ht.sm sm) .nil)) rfl
theorem w_appS {K : PySem.W.Frag} {H : Hp} {Q : VK} {l : Addr} {xs : List V} {ss : List SyW} {x : V} {s : SyW} (h : H l = some (.lst xs)) (hS : SysAt K H xs ss) (hs : SyAt K H x s) (z : xs.length ≤ 10000) (k : ∀ H' vs, Kp l H H' → H' l = some (.lst vs) → SysAt K H' vs (ss ++ [s]) → vs.length = xs.length + 1 → Q .non H') : rAppend (.ref l) [x] H Q :=
  w_app h (sz_lt (by omega)) fun H' kp g => k H' _ kp g ((hS.app (.cons hs .nil)).kpL h kp) (by rw [List.length_append]; rfl)
theorem w_extS {K : PySem.W.Frag} {H : Hp} {Q : VK} {l b : Addr} {xs ys : List V} {ss ts : List SyW} (h : H l = some (.lst xs)) (hS : SysAt K H xs ss) (hb : H b = some (.lst ys)) (hT : SysAt K H ys ts) (z : xs.length + ys.length ≤ 10000) (k : ∀ H' vs, Kp l H H' → H' l = some (.lst vs) → SysAt K H' vs (ss ++ ts) → vs.length = xs.length + ys.length → Q .non H') : rExtend (.ref l) [.ref b] H Q :=
  w_ext h hb (sz_of (by omega)) fun H' kp g => k H' _ kp g ((hS.app hT).kpL h kp) (by rw [List.length_append])
theorem w_catS {K : PySem.W.Frag} {H : Hp} {Q : VK} {l b : Addr} {xs ys : List V} {ss ts : List SyW} (h : H l = some (.lst xs)) (hS : SysAt K H xs ss) (hb : H b = some (.lst ys)) (hT : SysAt K H ys ts) (z : xs.length + ys.length ≤ 10000) (k : ∀ p H' vs, H p = none → Sm H H' → H' p = some (.lst vs) → SysAt K H' vs (ss ++ ts) → vs.length = xs.length + ys.length → Q (.ref p) H') : gAdd K (.ref l) (.ref b) H Q :=
  w_addL h hb (sz_of (by omega)) fun p H' np sm g => k p H' _ np sm g ((hS.app hT).sm sm) (by rw [List.length_append])
def NumAt (H : Hp) (n : Nat) (v : V) : Prop := ∀ K, TmAt K H (.num n) v
theorem NumAt.tm {K : PySem.W.Frag} {H : Hp} {n : Nat} {v : V} (h : NumAt H n v) : TmAt K H (.num n) v := h K
theorem w_newNu {H : Hp} {Q : VK} {n : Nat} (k : ∀ p H', H p = none → Sm H H' → NumAt H' n (.ref p) → Q (.ref p) H') : NewT [.str "num", .int ((n : Nat) : Int)] H Q :=
  w_newT (sz_of (Nat.le_of_ble_eq_true rfl)) fun p H' np sm g => k p H' np sm fun _ => tm_num g
theorem w_newNu1 {H : Hp} {Q : VK} {n : Nat} (k : ∀ p H', H p = none → Sm H H' → NumAt H' (n + 1) (.ref p) → Q (.ref p) H') : NewT [.str "num", .int ((n : Nat) + 1 : Int)] H Q :=
  w_newT (sz_of (Nat.le_of_ble_eq_true rfl)) fun p H' np sm g => k p H' np sm fun _ => tm_num g
local macro_rules | `(tactic| tm_at "rtm") => `(tactic| first | ((refine' NumAt.tm ?sa); (case sa => with_reducible assumption)) | fail "no")
local macro_rules | `(tactic| tm_at "rsy") => `(tactic| first | with_reducible assumption | ((refine' SyAt.sm ?sa ?sb); (case sb => with_reducible assumption); (case sa => tm_at "rsy")) | ((refine' SyAt.kpL ?sa ?sc ?sb); (case sb => with_reducible assumption); (case sc => tm_at "rlk"); (case sa => tm_at "rsy")) | fail "no")
local macro_rules | `(tactic| tm_at "rss") => `(tactic| first | with_reducible assumption | ((refine' SysAt.sm ?sa ?sb); (case sb => with_reducible assumption); (case sa => tm_at "rss")) | ((refine' SysAt.kpL ?sa ?sc ?sb); (case sb => with_reducible assumption); (case sc => tm_at "rlk"); (case sa => tm_at "rss")) | fail "no")
local macro_rules | `(tactic| tm_at "rs") => `(tactic| first | ((with_reducible refine' w_newOp ?h ?i (fun _ _ _ _ _ => ?k)); (case h => tm_at "rtm"); (case i => tm_at "rtm")) | ((with_reducible refine' w_newOp ?h ?i (fun _ _ _ _ _ => ?k)); (case i => tm_at "rtm"); (case h => tm_at "rtm")) | with_reducible refine w_newNu1 (fun _ _ _ _ _ => ?_) | with_reducible refine w_newNu (fun _ _ _ _ _ => ?_) | ((with_reducible refine' w_newS1 ?h (fun _ _ _ _ _ _ _ _ => ?k)); (case h => tm_at "rsy")) | ((with_reducible refine' w_newS2 ?h ?i (fun _ _ _ _ _ _ _ _ => ?k)); (case h => tm_at "rsy"); (case i => tm_at "rsy")) | ((with_reducible refine' w_appS ?h ?i ?j ?l (fun _ _ _ _ _ _ => ?k)); (case h => tm_at "rlk"); (case i => tm_at "rss"); (case j => tm_at "rsy"); (case l => omega)) | ((with_reducible refine' w_extS ?h ?i ?j ?l ?m (fun _ _ _ _ _ _ => ?k)); (case h => tm_at "rlk"); (case i => tm_at "rss"); (case j => tm_at "rlk"); (case l => tm_at "rss"); (case m => omega)) | ((with_reducible refine' w_catS ?h ?i ?j ?l ?m (fun _ _ _ _ _ _ _ _ => ?k)); (case h => tm_at "rlk"); (case i => tm_at "rss"); (case j => tm_at "rlk"); (case l => tm_at "rss"); (case m => omega)) | fail "no")
theorem nV_gt {l : List Nat} {i : Nat} {x : V} (h : (nV l)[i]? = some x) : ∃ n : Nat, l[i]? = some n ∧ x = .int (n : Nat) := by
  unfold nV at h
  rw [List.getElem?_map] at h
  cases e : l[i]? with
  | none => rw [e] at h; cases h
  | some n => rw [e] at h; exact ⟨n, rfl, (Option.some.inj h).symm⟩
theorem nVr_get {n i : Nat} {x : V} (h : (nV (List.range n))[i]? = some x) : i < n ∧ x = .int (i : Nat) := by
  obtain ⟨j, hj, rfl⟩ := nV_gt h
  rw [List.getElem?_range] at hj
  · cases hj
    exact ⟨(by
      have := (List.getElem?_eq_some_iff.mp h).1
      rw [nV_len, List.length_range] at this
      exact this), rfl⟩
  · have := (List.getElem?_eq_some_iff.mp h).1
    rw [nV_len, List.length_range] at this
    exact this
theorem SysAt.one {K : PySem.W.Frag} {H : Hp} {xs : List V} {ss : List SyW} {x : V} {s : SyW} (h : SysAt K H xs ss) (k : SyAt K H x s) : SysAt K H (xs ++ [x]) (ss ++ [s]) := h.app (.cons k .nil)
theorem map_rs {α : Type} (f : Nat → α) (i : Nat) : (List.range (i + 1)).map f = (List.range i).map f ++ [f i] := by rw [List.range_succ, List.map_append]; rfl
/-! what is said of a program -/
def nmT (c : Str) : Tm := .name c
def nmJ (c : Str) (j : Nat) : Tm := .name (nmS c j)
def oneT : Tm := .num 1
def twoT : Tm := .num 2
def tPl (a b : Tm) : Tm := .op "plus" a b
def tMl (a b : Tm) : Tm := .op "times" a b
def tPw (a b : Tm) : Tm := .op "power" a b
def pwAt (t : Tm) : Tm := .op "power" (.num 2) (.op "times" (.name "c") t)
def topT : Tm := pwAt (.op "plus" (.name "s") (.num 1))
def lsT (ks : List Nat) : List Tm := ks.map fun k => .name (nmS "l" k)
def same (a b : Tm) : SyW := (Str.ofString "same", a, b)
def undr (a b : Tm) : SyW := (Str.ofString "under", a, b)
def baseS (m n : Nat) : List SyW := [same (.name "h") (.op "plus" (.op "plus" (sumT ((List.range m).map fun j => .name (nmS "x" j))) (.num 1)) (.name "d")),
  same (.name "q") (.op "times" (.num 2) (.name "h")), same (.name "q") (.op "power" (.num 2) (.name "c")), same (.name "q") (.op "plus" (.num (n + 1)) (.name "g")),
  same (.op "plus" (.op "times" (.name "q") (.name "i")) (.num 1)) (.op "plus" topT (.name "i")), same (.op "plus" (.name "m") (.name "i")) (.op "times" (.name "h") (.name "i"))]

def stpK (rs : List Rw) (n : Nat) : List Nat := (List.range n).filter fun k => decide (rs[k]? = some .st)
def timeS (m : Nat) (rs : List Rw) : List SyW := (List.range m).map (fun j => undr (.name (nmS "r" j)) (.name "m")) ++ (List.range rs.length).map (fun k => undr (.name (nmS "l" k)) (.name "i")) ++
  [same (sumT (lsT (List.range rs.length))) (.name "i")] ++ [undr (.num 1) (.name (nmS "l" 0))] ++ [same (sumT (lsT (stpK rs rs.length))) (pwAt (.name "s"))] ++
  (asked m rs).map fun j => same (.op "plus" (.name (nmS "e" j)) (.op "times" (.num 2) (.name (nmS "r" j)))) (.op "times" (.name "q") (.name "i"))
def rowS (rs : List Rw) (k : Nat) : List SyW := match rs[k]? with
  | some .st => []
  | some (.go g) => [undr (.op "times" (.name "q") (.name (nmS "l" k))) (.name (nmS "l" g))]
  | some (.br j g) => if g = k + 1 then [undr (.op "times" (.name "q") (.name (nmS "l" k))) (.name (nmS "l" (k + 1)))]
    else [undr (.op "times" (.name "q") (.name (nmS "l" k))) (.op "plus" (.name (nmS "l" g)) (.name (nmS "l" (k + 1)))), undr (.op "times" (.name "q") (.name (nmS "l" k))) (.op "plus" (.name (nmS "l" (k + 1))) (.name (nmS "e" j)))]
  | some _ => [undr (.op "times" (.name "q") (.name (nmS "l" k))) (.name (nmS "l" (k + 1)))]
  | none => []
def boxS (rs : List Rw) (j : Nat) : SyW := same (.op "plus" (.op "times" (.name "q") (.op "plus" (.name (nmS "r" j)) (sumT (lsT (plc rs (.up j) rs.length))))) (.name (nmS "x" j)))
  (.op "plus" (.op "plus" (.name (nmS "r" j)) (.op "times" (.name "q") (sumT (lsT (plc rs (.dn j) rs.length))))) (.op "times" topT (.name (nmS "y" j))))
def rowsS (rs : List Rw) (n : Nat) : List SyW := ((List.range n).map (rowS rs)).flatten
def sysOf (m : Nat) (rs : List Rw) : List SyW := baseS m rs.length ++ timeS m rs ++ rowsS rs rs.length ++ (List.range m).map (boxS rs)
theorem asked_le (m : Nat) (rs : List Rw) : (asked m rs).length ≤ m := by
  have := List.length_filter_le (fun j => askB rs j rs.length) (List.range m)
  rw [List.length_range] at this
  exact this
theorem baseS_len (m n : Nat) : (baseS m n).length = 6 := rfl
theorem timeS_len (m : Nat) (rs : List Rw) : (timeS m rs).length = m + rs.length + 3 + (asked m rs).length := by
  unfold timeS
  simp only [List.length_append, List.length_map, List.length_range, List.length_singleton]
theorem rowS_len (rs : List Rw) (k : Nat) : (rowS rs k).length ≤ 2 := by
  unfold rowS
  split
  all_goals first | exact Nat.zero_le _ | (show 1 ≤ 2; decide) | (split <;> first | (show 1 ≤ 2; decide) | exact Nat.le_refl _)
theorem rowsS_succ (rs : List Rw) (n : Nat) : rowsS rs (n + 1) = rowsS rs n ++ rowS rs n := by
  unfold rowsS
  rw [List.range_succ, List.map_append, List.flatten_append]
  simp
theorem rowsS_len (rs : List Rw) : ∀ n, (rowsS rs n).length ≤ 2 * n
  | 0 => Nat.le_refl _
  | n + 1 => by
    rw [rowsS_succ, List.length_append]
    have := rowsS_len rs n
    have := rowS_len rs n
    omega
theorem stpK_succ {rs : List Rw} {n : Nat} : stpK rs (n + 1) = stpK rs n ++ (if rs[n]? = some .st then [n] else []) := by
  unfold stpK
  rw [List.range_succ, List.filter_append]
  by_cases h : rs[n]? = some .st
  · rw [if_pos h, List.filter_cons_of_pos (by rw [decide_eq_true h]), List.filter_nil]
  · rw [if_neg h, List.filter_cons_of_neg (by rw [decide_eq_false h]; exact Bool.false_ne_true), List.filter_nil]
theorem stpK_len (rs : List Rw) (n : Nat) : (stpK rs n).length ≤ n := by
  have := List.length_filter_le (fun k => decide (rs[k]? = some Rw.st)) (List.range n)
  rw [List.length_range] at this
  exact this
theorem plc_len (rs : List Rw) (q : Rw) (n : Nat) : (plc rs q n).length ≤ n := by
  have := List.length_filter_le (fun k => decide (rs[k]? = some q)) (List.range n)
  rw [List.length_range] at this
  exact this
theorem lsT_len (ks : List Nat) : (lsT ks).length = ks.length := List.length_map _

/-! terms as data: alike, shown -/
def tmD : Tm → PyData
  | .num n => .tuple [.str "num", .int (n : Int)]
  | .name s => .tuple [.str "name", .str s]
  | .op w a b => .tuple [.str w, tmD a, tmD b]
theorem TmAt.dpD {K : PySem.W.Frag} {H : Hp} : ∀ {t : Tm} {v : V}, TmAt K H t v → Dp K H v (tmD t)
  | .num n, _, ⟨_, rfl, q⟩ => .tup q.sq (.cons (.str _) (.cons (.int _) .nil))
  | .name s, _, ⟨_, rfl, q⟩ => .tup q.sq (.cons (.str _) (.cons (.str _) .nil))
  | .op w a b, _, ⟨_, _, _, rfl, q, r1, r2⟩ => .tup q.sq (.cons (.str _) (.cons (TmAt.dpD r1) (.cons (TmAt.dpD r2) .nil)))
/-- names and words are plain texts -/
def TmL : Tm → Prop
  | .num _ => True
  | .name s => PyData.strOk s = true
  | .op w a b => PyData.strOk w = true ∧ TmL a ∧ TmL b
theorem tmD_lay : ∀ {t : Tm}, TmL t → (tmD t).canLay0 = true
  | .num n, _ => by
    have h : PyData.strOk (Str.ofString "num") = true := by decide +kernel
    simp [tmD, PyData.canLay0, PyData.canLayAll0, h]
  | .name s, hs => by
    have h : PyData.strOk (Str.ofString "name") = true := by decide +kernel
    have hs : PyData.strOk s = true := hs
    simp [tmD, PyData.canLay0, PyData.canLayAll0, h, hs]
  | .op w a b, hs => by
    obtain ⟨h1, h2, h3⟩ := hs
    simp [tmD, PyData.canLay0, PyData.canLayAll0, tmD_lay h2, tmD_lay h3, h1]
theorem tmD_dep : ∀ t : Tm, (tmD t).depth ≤ t.dep + 1
  | .num n => by simp [tmD, PyData.depth, PyData.depthAll]
  | .name s => by simp [tmD, PyData.depth, PyData.depthAll]
  | .op w a b => by
    have h1 := tmD_dep a
    have h2 := tmD_dep b
    show (PyData.tuple [.str w, tmD a, tmD b]).depth ≤ max a.dep b.dep + 1 + 1
    simp only [PyData.depth, PyData.depthAll]
    omega
/-- a saying as a tuple -/
def syD (w : Str) (s t : Tm) : PyData := .tuple [.str w, tmD s, tmD t]
theorem syD_lay {w : Str} {s t : Tm} (h : TmL (.op w s t)) : (syD w s t).canLay0 = true := by
  obtain ⟨h1, h2, h3⟩ := h
  simp [syD, PyData.canLay0, PyData.canLayAll0, tmD_lay h2, tmD_lay h3, h1]
theorem syD_dep {w : Str} {s t : Tm} (h1 : s.dep ≤ 2900) (h2 : t.dep ≤ 2900) : (syD w s t).depth ≤ 3000 := by
  have e1 := tmD_dep s
  have e2 := tmD_dep t
  simp only [syD, PyData.depth, PyData.depthAll]
  omega
theorem w_eqSay {K : PySem.W.Frag} {H : Hp} {Q : VK} {a b : Addr} {w : Str} {l1 r1 l2 r2 : V} {s t : Tm} (h1 : H a = some (.tup [.str w, l1, r1])) (h2 : H b = some (.tup [.str w, l2, r2])) (s1 : TmAt K H s l1) (t1 : TmAt K H t r1) (s2 : TmAt K H s l2) (t2 : TmAt K H t r2) (lw : TmL (.op w s t)) (d1 : s.dep ≤ 2900) (d2 : t.dep ≤ 2900) (k : Q (.bl true) H) : rEqDD K (.ref a) (.ref b) H Q := by
  refine ⟨syD w s t, syD w s t, .tup (st_of h1) (.cons (.str _) (.cons s1.dpD (.cons t1.dpD .nil))), .tup (st_of h2) (.cons (.str _) (.cons s2.dpD (.cons t2.dpD .nil))), syD_lay lw, syD_lay lw, syD_dep d1 d2, ?_⟩
  rw [PySem.SeqAt.eqv_refl _ (syD_lay lw)]
  exact k
theorem sayc_eq {K : PySem.W.Frag} {C D : Addr} (a : SayC K C) (b : SayC K D) : C = D := ClsN.uniq a b

/-! long sums shown -/
def TmX : Tm → Prop
  | .num n => n < 10 ^ 12
  | .name s => PyData.strOk s = true ∧ s.length ≤ 20
  | .op w a b => (PyData.strOk w = true ∧ w.length ≤ 20) ∧ TmX a ∧ TmX b
theorem TmX.l : ∀ {t : Tm}, TmX t → TmL t
  | .num _, _ => trivial
  | .name _, h => h.1
  | .op _ _ _, ⟨h1, h2, h3⟩ => ⟨h1.1, h2.l, h3.l⟩
structure Shb (d : PyData) (N : Nat) : Prop where
  sh : d.showable = true
  nd : d.hasDict = false
  lv : d.leavesShort 20 = true
  bk : d.bulk ≤ N
theorem shb_str {x : Str} (h : PyData.strOk x = true) (l : x.length ≤ 20) : Shb (.str x) 20 := by
  refine ⟨by simp [PyData.showable], by simp [PyData.hasDict], ?_, by simp [PyData.bulk]; exact l⟩
  simp only [PyData.leavesShort, List.all_eq_true, decide_eq_true_eq]
  intro c hc
  unfold PyData.strOk at h
  rw [← Array.all_toList] at h
  have h1 := of_decide_eq_true (List.all_eq_true.mp h c hc)
  have : (16 : Nat) ^ 8 = 4294967296 := by decide
  omega
theorem shb_int {n : Nat} (h : n < 10 ^ 12) : Shb (.int (n : Int)) 0 := by
  have e := int_text_length_le10 (k := 12) (by decide) (show (n : Int).natAbs < 10 ^ 12 by rw [Int.natAbs_natCast]; exact h)
  have hs : (PyData.shown (.int (n : Int))).length ≤ 20 := by
    show (Str.ofString (toString (n : Int))).length ≤ 20
    rw [PySem.ofString_length]
    omega
  have hl : (n : Int).natAbs.log2 < 1920 := PySem.Spec.log2_small (by rw [Int.natAbs_natCast]; exact Nat.lt_of_lt_of_le h (by decide +kernel))
  rw [Int.natAbs_natCast] at hl
  exact ⟨by simp [PyData.showable, hl], by simp [PyData.hasDict], by simp [PyData.leavesShort, hs], by simp [PyData.bulk]⟩
theorem shb_two {a b : PyData} {n m : Nat} (ha : Shb a n) (hb : Shb b m) : Shb (.tuple [a, b]) (n + m + 2) :=
  ⟨by simp [PyData.showable, PyData.showableAll, ha.sh, hb.sh], by simp [PyData.hasDict, PyData.hasDictAll, ha.nd, hb.nd], by simp [PyData.leavesShort, PyData.leavesShortAll, ha.lv, hb.lv], by
    have := ha.bk
    have := hb.bk
    simp only [PyData.bulk, PyData.bulkAll]
    omega⟩
theorem shb_three {a b c : PyData} {n m l : Nat} (ha : Shb a n) (hb : Shb b m) (hc : Shb c l) : Shb (.tuple [a, b, c]) (n + m + l + 3) :=
  ⟨by simp [PyData.showable, PyData.showableAll, ha.sh, hb.sh, hc.sh], by simp [PyData.hasDict, PyData.hasDictAll, ha.nd, hb.nd, hc.nd], by simp [PyData.leavesShort, PyData.leavesShortAll, ha.lv, hb.lv, hc.lv], by
    have := ha.bk
    have := hb.bk
    have := hc.bk
    simp only [PyData.bulk, PyData.bulkAll]
    omega⟩
theorem Shb.up {d : PyData} {n m : Nat} (h : Shb d n) (l : n ≤ m) : Shb d m := ⟨h.sh, h.nd, h.lv, Nat.le_trans h.bk l⟩
theorem shb_tm : ∀ {t : Tm}, TmX t → Shb (tmD t) (30 * t.wt)
  | .num n, h => (shb_two (shb_str (x := "num") (by decide +kernel) (by decide)) (shb_int h)).up (by show 20 + 0 + 2 ≤ 30 * 1; decide)
  | .name s, h => (shb_two ⟨rfl, rfl, (shb_str (x := "name") (by decide +kernel) (by decide)).lv, show (4 : Nat) ≤ 4 from Nat.le_refl _⟩ (shb_str h.1 h.2)).up (by show 4 + 20 + 2 ≤ 30 * 1; decide)
  | .op w a b, ⟨h1, h2, h3⟩ => (shb_three (shb_str h1.1 h1.2) (shb_tm h2) (shb_tm h3)).up (by show 20 + 30 * a.wt + 30 * b.wt + 3 ≤ 30 * (a.wt + b.wt + 2); omega)
theorem shb_sy {w : Str} {s t : Tm} (h : TmX (.op w s t)) : Shb (syD w s t) (30 * (Tm.op w s t).wt) := shb_tm h
theorem w_repB {K : PySem.W.Frag} {H : Hp} {Q : VK} {a : Addr} {l r : V} {w : Str} {s t : Tm} (h : H a = some (.tup [.str w, l, r])) (ht : TmAt K H s l) (hr : TmAt K H t r) (hx : TmX (.op w s t)) (d1 : s.dep ≤ 2900) (d2 : t.dep ≤ 2900) (hw : (Tm.op w s t).wt ≤ 24000) (k : Q (.str (syD w s t).shown) H) : gRep K [.ref a] H Q := by
  have sb := shb_sy hx
  refine .inl ⟨a, syD w s t, rfl, .tup (st_of h) (.cons (.str _) (.cons ht.dpD (.cons hr.dpD .nil))), sb.sh, sb.nd, syD_dep d1 d2, ?_, k⟩
  have e := PyData.shown_le_bulk 20 (by decide) (syD w s t) sb.lv
  have e2 : (20 + 2) * (syD w s t).bulk ≤ 22 * (30 * 24000) := Nat.mul_le_mul_left _ (Nat.le_trans sb.bk (Nat.mul_le_mul_left _ hw))
  have e3 : 22 * (30 * 24000) + 20 ≤ sizeLine := by decide
  omega
theorem fold_X : ∀ {ts : List Tm} {a : Tm}, TmX a → (∀ t ∈ ts, TmX t) → TmX (ts.foldl (fun a b => .op "plus" a b) a)
  | [], _, h, _ => h
  | t :: ts, a, h, k => fold_X (ts := ts) (a := .op "plus" a t) ⟨⟨by decide +kernel, by decide⟩, h, k t List.mem_cons_self⟩ fun u hu => k u (List.mem_cons_of_mem _ hu)
theorem fold_wt {w : Nat} : ∀ {ts : List Tm} {a : Tm}, (∀ t ∈ ts, t.wt ≤ w) → (ts.foldl (fun a b => Tm.op "plus" a b) a).wt ≤ a.wt + ts.length * (w + 2)
  | [], a, _ => by
    show a.wt ≤ a.wt + 0 * (w + 2)
    omega
  | t :: ts, a, k => by
    have h := fold_wt (ts := ts) (a := .op "plus" a t) fun u hu => k u (List.mem_cons_of_mem _ hu)
    have h2 := k t List.mem_cons_self
    have h3 : (Tm.op (Str.ofString "plus") a t).wt = a.wt + t.wt + 2 := rfl
    show (ts.foldl (fun a b => Tm.op "plus" a b) (.op "plus" a t)).wt ≤ _
    rw [List.length_cons, Nat.succ_mul]
    omega
theorem fold_depA {d : Nat} : ∀ {ts : List Tm} {a : Tm}, (∀ t ∈ ts, t.dep ≤ d) → (ts.foldl (fun a b => Tm.op "plus" a b) a).dep ≤ max a.dep d + ts.length
  | [], a, _ => by
    show a.dep ≤ _
    omega
  | t :: ts, a, k => by
    have h := fold_depA (ts := ts) (a := .op "plus" a t) fun u hu => k u (List.mem_cons_of_mem _ hu)
    have h2 := k t List.mem_cons_self
    have h3 : (Tm.op (Str.ofString "plus") a t).dep = max a.dep t.dep + 1 := rfl
    show (ts.foldl (fun a b => Tm.op "plus" a b) (.op "plus" a t)).dep ≤ _
    rw [List.length_cons]
    omega
theorem sumT_X {ts : List Tm} (h : ∀ t ∈ ts, TmX t) : TmX (sumT ts) := by
  cases ts with
  | nil => show (0 : Nat) < 10 ^ 12; decide
  | cons t ts => exact fold_X (h t List.mem_cons_self) fun u hu => h u (List.mem_cons_of_mem _ hu)
theorem sumT_wt {w : Nat} {ts : List Tm} (h : ∀ t ∈ ts, t.wt ≤ w) : (sumT ts).wt ≤ 1 + ts.length * (w + 2) := by
  cases ts with
  | nil => show 1 ≤ _; omega
  | cons t ts =>
    have e := fold_wt (a := t) fun u hu => h u (List.mem_cons_of_mem _ hu)
    have e2 := h t List.mem_cons_self
    show (ts.foldl (fun a b => Tm.op "plus" a b) t).wt ≤ _
    rw [List.length_cons, Nat.succ_mul]
    omega
theorem sumT_dep {d : Nat} {ts : List Tm} (h : ∀ t ∈ ts, t.dep ≤ d) : (sumT ts).dep ≤ d + ts.length := by
  cases ts with
  | nil => show 0 ≤ _; omega
  | cons t ts =>
    have e := fold_depA (a := t) fun u hu => h u (List.mem_cons_of_mem _ hu)
    have e2 := h t List.mem_cons_self
    show (ts.foldl (fun a b => Tm.op "plus" a b) t).dep ≤ _
    rw [List.length_cons]
    omega
theorem isi_say {K : PySem.W.Frag} {H : Hp} {Q : VK} {v l r : V} {w : Str} {C : Addr} (h : SayAt K H v w l r) (hC : SayC K C) (o : ClsO K C) (k : Q (.bl true) H) : rIsi K [v, .ref C] H Q := by
  obtain ⟨p, D, dx, rfl, c, g⟩ := h
  obtain rfl := sayc_eq c hC
  exact w_isiOwn g c.cl o k
/-- drawn sides of a saying -/
def D69 (ab : Tm × Tm) : Prop := TmX ab.1 ∧ TmX ab.2 ∧ ab.1.dep ≤ 3 ∧ ab.2.dep ≤ 3 ∧ ab.1.wt ≤ 30 ∧ ab.2.wt ≤ 30
theorem d69_X {abs : List (Tm × Tm)} (h : ∀ ab ∈ abs, D69 ab) : TmX (.op "same" (sumT (abs.map sqT)) (sumT (abs.map prT))) := by
  refine ⟨⟨by decide +kernel, by decide⟩, sumT_X fun t ht => ?_, sumT_X fun t ht => ?_⟩
  · obtain ⟨ab, hab, rfl⟩ := List.mem_map.mp ht
    obtain ⟨h1, h2, _⟩ := h ab hab
    exact ⟨⟨by decide +kernel, by decide⟩, ⟨⟨by decide +kernel, by decide⟩, h1, h1⟩, ⟨⟨by decide +kernel, by decide⟩, h2, h2⟩⟩
  · obtain ⟨ab, hab, rfl⟩ := List.mem_map.mp ht
    obtain ⟨h1, h2, _⟩ := h ab hab
    exact ⟨⟨by decide +kernel, by decide⟩, show (2 : Nat) < 10 ^ 12 by decide, ⟨⟨by decide +kernel, by decide⟩, h1, h2⟩⟩
theorem d69_dep {abs : List (Tm × Tm)} (h : ∀ ab ∈ abs, D69 ab) (l : abs.length ≤ 100) : (sumT (abs.map sqT)).dep ≤ 2900 ∧ (sumT (abs.map prT)).dep ≤ 2900 := by
  have e1 := sumT_dep (d := 5) (ts := abs.map sqT) fun t ht => by
    obtain ⟨ab, hab, rfl⟩ := List.mem_map.mp ht
    obtain ⟨_, _, h1, h2, _⟩ := h ab hab
    show max (max ab.1.dep ab.1.dep + 1) (max ab.2.dep ab.2.dep + 1) + 1 ≤ 5
    omega
  have e2 := sumT_dep (d := 5) (ts := abs.map prT) fun t ht => by
    obtain ⟨ab, hab, rfl⟩ := List.mem_map.mp ht
    obtain ⟨_, _, h1, h2, _⟩ := h ab hab
    show max 0 (max ab.1.dep ab.2.dep + 1) + 1 ≤ 5
    omega
  rw [List.length_map] at e1 e2
  omega
theorem d69_wt {abs : List (Tm × Tm)} (h : ∀ ab ∈ abs, D69 ab) (l : abs.length ≤ 100) : (Tm.op "same" (sumT (abs.map sqT)) (sumT (abs.map prT))).wt ≤ 24000 := by
  have e1 := sumT_wt (w := 126) (ts := abs.map sqT) fun t ht => by
    obtain ⟨ab, hab, rfl⟩ := List.mem_map.mp ht
    obtain ⟨_, _, _, _, h1, h2⟩ := h ab hab
    show (ab.1.wt + ab.1.wt + 2) + (ab.2.wt + ab.2.wt + 2) + 2 ≤ 126
    omega
  have e2 := sumT_wt (w := 66) (ts := abs.map prT) fun t ht => by
    obtain ⟨ab, hab, rfl⟩ := List.mem_map.mp ht
    obtain ⟨_, _, _, _, h1, h2⟩ := h ab hab
    show 1 + (ab.1.wt + ab.2.wt + 2) + 2 ≤ 66
    omega
  rw [List.length_map] at e1 e2
  show (sumT (abs.map sqT)).wt + (sumT (abs.map prT)).wt + 2 ≤ 24000
  omega

/-! lists of terms: shown, added, made longer -/
abbrev MsAt (K : PySem.W.Frag) (H : Hp) (vs : List V) (ts : List Tm) : Prop := TmsAt K H vs ts
theorem TmsAt.one {K : PySem.W.Frag} {H : Hp} {vs : List V} {ts : List Tm} {v : V} {t : Tm} (h : TmsAt K H vs ts) (e : TmAt K H t v) : TmsAt K H (vs ++ [v]) (ts ++ [t]) := paired_app h (.cons e .nil)
theorem TmsAt.len {K : PySem.W.Frag} {H : Hp} {vs : List V} {ts : List Tm} (h : TmsAt K H vs ts) : vs.length = ts.length := paired_len h
theorem TmsAt.get {K : PySem.W.Frag} {H : Hp} {vs : List V} {ts : List Tm} (h : TmsAt K H vs ts) {i : Nat} {t : Tm} (e : ts[i]? = some t) : ∃ v, atI vs (i : Nat) = some v ∧ TmAt K H t v := by
  have hi := (List.getElem?_eq_some_iff.mp e).1
  have hv : i < vs.length := by rw [paired_len h]; exact hi
  obtain ⟨t', ht, q⟩ := paired_get h (List.getElem?_eq_getElem hv)
  rw [e] at ht
  cases ht
  exact ⟨_, atI_nat (List.getElem?_eq_getElem hv), q⟩
theorem w_newM0 {K : PySem.W.Frag} {H : Hp} {Q : VK} (k : ∀ p H', H p = none → Sm H H' → H' p = some (.lst []) → TmsAt K H' [] [] → Q (.ref p) H') : NewL [] H Q :=
  w_newL (sz_of (Nat.le_of_ble_eq_true rfl)) fun p H' np sm g => k p H' np sm g .nil
theorem w_newM1 {K : PySem.W.Frag} {H : Hp} {Q : VK} {x : V} {s : Tm} (hs : TmAt K H s x) (k : ∀ p H', H p = none → Sm H H' → H' p = some (.lst [x]) → TmsAt K H' [x] [s] → Q (.ref p) H') : NewL [x] H Q :=
  w_newL (sz_of (Nat.le_of_ble_eq_true rfl)) fun p H' np sm g => k p H' np sm g (.cons (hs.sm sm) .nil)
theorem w_newM2 {K : PySem.W.Frag} {H : Hp} {Q : VK} {x y : V} {s t : Tm} (hs : TmAt K H s x) (ht : TmAt K H t y) (k : ∀ p H', H p = none → Sm H H' → H' p = some (.lst [x, y]) → TmsAt K H' [x, y] [s, t] → Q (.ref p) H') : NewL [x, y] H Q :=
  w_newL (sz_of (Nat.le_of_ble_eq_true rfl)) fun p H' np sm g => k p H' np sm g (.cons (hs.sm sm) (.cons (ht.sm sm) .nil))
theorem w_appM {K : PySem.W.Frag} {H : Hp} {Q : VK} {l : Addr} {xs : List V} {ss : List Tm} {x : V} {s : Tm} (h : H l = some (.lst xs)) (hS : TmsAt K H xs ss) (hs : TmAt K H s x) (z : xs.length ≤ 10000) (k : ∀ H', Kp l H H' → H' l = some (.lst (xs ++ [x])) → TmsAt K H' (xs ++ [x]) (ss ++ [s]) → Q .non H') : rAppend (.ref l) [x] H Q :=
  w_app h (sz_lt (by omega)) fun H' kp g => k H' kp g ((hS.one hs).kpL h kp)
theorem w_catM {K : PySem.W.Frag} {H : Hp} {Q : VK} {l b : Addr} {xs ys : List V} {ss ts : List Tm} (h : H l = some (.lst xs)) (hS : TmsAt K H xs ss) (hb : H b = some (.lst ys)) (hT : TmsAt K H ys ts) (z : xs.length + ys.length ≤ 10000) (k : ∀ p H', H p = none → Sm H H' → H' p = some (.lst (xs ++ ys)) → TmsAt K H' (xs ++ ys) (ss ++ ts) → Q (.ref p) H') : gAdd K (.ref l) (.ref b) H Q :=
  w_addL h hb (sz_of (by omega)) fun p H' np sm g => k p H' np sm g ((show TmsAt K H (xs ++ ys) (ss ++ ts) from paired_app hS hT).sm sm)
theorem w_ixM {K : PySem.W.Frag} {H : Hp} {Q : VK} {p : Addr} {xs : List V} {ts : List Tm} {i : Nat} {t : Tm} (h : H p = some (.lst xs)) (hT : TmsAt K H xs ts) (e : ts[i]? = some t) (k : ∀ v, TmAt K H t v → Q v H) : rIx K (.ref p) (.int (i : Nat)) H Q := by
  obtain ⟨v, a, q⟩ := hT.get e
  exact w_ixL (sq_of h) a (k v q)
local macro_rules | `(tactic| tm_at "rms") => `(tactic| first | with_reducible assumption | ((refine' TmsAt.sm ?sa ?sb); (case sb => with_reducible assumption); (case sa => tm_at "rms")) | ((refine' TmsAt.kpL ?sa ?sc ?sb); (case sb => with_reducible assumption); (case sc => tm_at "rlk"); (case sa => tm_at "rms")) | fail "no")
local macro_rules | `(tactic| tm_at "rs") => `(tactic| first | ((with_reducible refine' w_newM1 ?h (fun _ _ _ _ _ _ => ?k)); (case h => tm_at "rtm")) | ((with_reducible refine' w_newM2 ?h ?i (fun _ _ _ _ _ _ => ?k)); (case h => tm_at "rtm"); (case i => tm_at "rtm")) | ((with_reducible refine' w_appM ?h ?i ?j ?l (fun _ _ _ _ => ?k)); (case h => tm_at "rlk"); (case i => tm_at "rms"); (case j => tm_at "rtm"); (case l => first | omega | (simp only [List.length_cons, List.length_nil, List.length_append]; omega))) | ((with_reducible refine' w_catM ?h ?i ?j ?l ?m (fun _ _ _ _ _ _ => ?k)); (case h => tm_at "rlk"); (case i => tm_at "rms"); (case j => tm_at "rlk"); (case l => tm_at "rms"); (case m => first | omega | (simp only [List.length_cons, List.length_nil, List.length_append]; omega))) | fail "no")
/-- [f(x) for x in a list of terms] -/
theorem lcMs {K : PySem.W.Frag} {σ : L2.St} {H : Hp} {Q : VK} {p : Addr} {xs : List V} {ts : List Tm} {F : Tm → Tm} {j : Nat} {vs : List Nat} {te : TE} (hp : H p = some (.lst xs)) (hx : TmsAt K H xs ts) (hl : xs.length ≤ 1000)
    (hs : ∀ (x : V) (t : Tm) (D : Addr) (H' : Hp) (zs : List V) (R : Hp → Prop), Sm H H' → TmAt K H' t x → H' D = some (.lst zs) → zs.length ≤ 1000 → (∀ y H2, Sm H' H2 → TmAt K H2 (F t) y → LcEnd D y R H2) → LcGo vs σ ((wipe σ vs).set j (some x)) (te ((wipe σ vs).set j (some x)) H' fun y H4 => LcEnd D y R H4))
    (k : ∀ q zs H', H q = none → Sm H H' → H' q = some (.lst zs) → TmsAt K H' zs (ts.map F) → zs.length = xs.length → Q (.ref q) H') : LcL (Itl K p) (gName j) tYes te vs σ H Q := by
  refine lcLs (xs := xs) (fun D i H' => ∃ zs, H' D = some (.lst zs) ∧ TmsAt K H' zs ((ts.take i).map F) ∧ zs.length = i ∧ Sm H H') (fun D H' nD sm hD => ⟨[], hD, .nil, rfl, sm⟩) (fun D i H' nD hi h => by obtain ⟨zs, _, _, _, sm⟩ := h; exact sq_of (sm _ _ hp)) ?_ ?_
  · rintro D i x H' nD hi ⟨zs, hD, hz, hzl, sm⟩
    obtain ⟨t, ht, hxt⟩ := paired_get hx hi
    have hil := (List.getElem?_eq_some_iff.mp hi).1
    have htk : ts.take (i + 1) = ts.take i ++ [t] := by rw [List.take_succ, ht]; rfl
    refine w_gname ?_
    refine hs x t D H' zs _ sm (hxt.sm sm) hD (by omega) (fun y H2 s2 ty => ?_)
    refine w_lcEnd (s2 _ _ hD) (sz_lt (by omega)) (fun H3 k3 g3 => ?_)
    refine ⟨_, g3, ?_, by rw [List.length_append, hzl]; rfl, sm_mut (sm.trans s2) (Same.free (Same.refl _) nD) k3⟩
    rw [htk, List.map_append]
    exact ((TmsAt.sm hz s2).one ty).kpL (s2 _ _ hD) k3
  · rintro D H' nD ⟨zs, hD, hz, hzl, sm⟩
    rw [paired_len hx, List.take_length] at hz
    exact k D zs H' nD sm hD hz hzl
/-- a saying as a term of three -/
def opS (s : SyW) : Tm := .op s.1 s.2.1 s.2.2
theorem SyAt.trip {K : PySem.W.Frag} {H : Hp} {v : V} {s : SyW} (h : SyAt K H v s) : ∃ l r, SayAt K H v s.1 l r ∧ TmAt K H s.2.1 l ∧ TmAt K H s.2.2 r := h
/-- lists of terms shown -/
structure ShbL (ds : List PyData) (N : Nat) : Prop where
  sh : PyData.showableAll ds = true
  nd : PyData.hasDictAll ds = false
  lv : PyData.leavesShortAll 20 ds = true
  bk : PyData.bulkAll ds ≤ N
def sumWt : List Tm → Nat
  | [] => 0
  | t :: ts => t.wt + sumWt ts
theorem sumWt_app : ∀ (l m : List Tm), sumWt (l ++ m) = sumWt l + sumWt m
  | [], m => by show sumWt m = 0 + sumWt m; omega
  | t :: l, m => by
    show t.wt + sumWt (l ++ m) = t.wt + sumWt l + sumWt m
    rw [sumWt_app l m]
    omega
theorem sumWt_le {w : Nat} : ∀ {l : List Tm}, (∀ t ∈ l, t.wt ≤ w) → sumWt l ≤ w * l.length
  | [], _ => Nat.zero_le _
  | t :: l, h => by
    have h1 := h t List.mem_cons_self
    have h2 := sumWt_le (l := l) fun x hx => h x (List.mem_cons_of_mem _ hx)
    show t.wt + sumWt l ≤ _
    rw [List.length_cons, Nat.mul_succ]
    omega
theorem shbL_tms : ∀ {ts : List Tm}, (∀ t ∈ ts, TmX t) → ShbL (ts.map tmD) (31 * sumWt ts)
  | [], _ => ⟨rfl, rfl, rfl, Nat.zero_le _⟩
  | t :: ts, h => by
    have a := shb_tm (h t List.mem_cons_self)
    have b := shbL_tms (ts := ts) fun x hx => h x (List.mem_cons_of_mem _ hx)
    have w := t.wt_pos
    refine ⟨by simp [PyData.showableAll, a.sh, b.sh], by simp [PyData.hasDictAll, a.nd, b.nd], by simp [PyData.leavesShortAll, a.lv, b.lv], ?_⟩
    have h1 := a.bk
    have h2 := b.bk
    show PyData.bulkAll (tmD t :: ts.map tmD) ≤ 31 * (t.wt + sumWt ts)
    simp only [PyData.bulkAll]
    omega
theorem dpAll_tms {K : PySem.W.Frag} {H : Hp} : ∀ {vs : List V} {ts : List Tm}, TmsAt K H vs ts → DpAll K H vs (ts.map tmD)
  | _, _, .nil => .nil
  | _, _, .cons a b => .cons a.dpD (dpAll_tms b)
theorem depAll_tms {d : Nat} : ∀ {ts : List Tm}, (∀ t ∈ ts, t.dep ≤ d) → PyData.depthAll (ts.map tmD) ≤ d + 1
  | [], _ => by simp [PyData.depthAll]
  | t :: ts, h => by
    have h1 := h t List.mem_cons_self
    have h2 := depAll_tms (ts := ts) fun x hx => h x (List.mem_cons_of_mem _ hx)
    have h3 := tmD_dep t
    show PyData.depthAll (tmD t :: ts.map tmD) ≤ d + 1
    simp only [PyData.depthAll]
    omega
theorem w_repMs {K : PySem.W.Frag} {H : Hp} {Q : VK} {a : Addr} {vs : List V} {ts : List Tm} (h : H a = some (.lst vs)) (hT : TmsAt K H vs ts) (hx : ∀ t ∈ ts, TmX t) (hd : ∀ t ∈ ts, t.dep ≤ 2900) (hw : sumWt ts ≤ 20000) (k : Q (.str (PyData.list (ts.map tmD)).shown) H) : gRep K [.ref a] H Q := by
  have sb := shbL_tms hx
  have dp := depAll_tms hd
  have bk : (PyData.list (ts.map tmD)).bulk ≤ 31 * 20000 := by
    have := sb.bk
    simp only [PyData.bulk]
    omega
  have lv : (PyData.list (ts.map tmD)).leavesShort 20 = true := by simp [PyData.leavesShort, sb.lv]
  refine .inl ⟨a, PyData.list (ts.map tmD), rfl, .lst (sq_of h) (dpAll_tms hT), by simp [PyData.showable, sb.sh], by simp [PyData.hasDict, sb.nd], ?_, ?_, k⟩
  · simp only [PyData.depth]
    omega
  · have e := PyData.shown_le_bulk 20 (by decide) (PyData.list (ts.map tmD)) lv
    have e2 : (20 + 2) * (PyData.list (ts.map tmD)).bulk ≤ 22 * (31 * 20000) := Nat.mul_le_mul_left _ bk
    have e3 : 22 * (31 * 20000) + 20 ≤ sizeLine := by decide
    omega

/-! a, b = a list -/
theorem pg_gl {X : Cx} {K : PySem.W.Frag} (hK : X.K = K) {es : List Expr} {k : Nat} {pos : Pos} {t : TGs} {n : Nat} (hc : X.calm = true) (h : PGs X es t) (hl : (assignEach es X.env).length = n := by rfl) (hst : (assignEach es X.env).findIdx? (·.1) = none := by rfl) :
    PG X (.Tuple es k pos) (L2.gLst K n t) := by
  subst hK
  exact pg_lst hc h hl hst
theorem w_glst {K : PySem.W.Frag} {n : Nat} {t : TGs} {σ : L2.St} {H : Hp} {Q : L2.St → Hp → Prop} {a : Addr} {xs : List V} (h : SqL K H a xs) (l : xs.length = n) (k : t xs σ H Q) : L2.gLst K n t (.ref a) σ H Q := ⟨a, xs, rfl, h, l, k⟩
local macro_rules | `(tactic| tm_at "rs") => `(tactic| first | ((with_reducible refine' w_glst ?h ?l ?k); (case h => tm_at "rsq"); (case l => rfl)) | fail "no")

/-! list(a text) -/
section
open PySem
variable {prog : Program} {w : World} {A : Around} {E : Value → Shared → Prop} {s : Shared}
theorem list_text_init {R : Result → Shared → Prop} (hh : A.handled = none) (x : Str) (t : Tok) (S : Addr) (hS : s.heap.get? S = some { cls := .type "list", data := .seq #[] }) (hn : x.cps.size ≤ sizeLine)
    (hR : ∀ h' tk acc' c', (∀ b o, b ≠ S → s.heap.get? b = some o → h'.get? b = some o) → h'.get? S = some { cls := .type "list", dict := none, data := .seq acc' c', slots := #[] } → ItemsOf (SignAt x) acc' x.cps.size → R (.ok (.ret .none)) { s with heap := h', toks := tk }) :
    wpAny (model prog w) A.in1 (Builtin.«list.__init__» ⟨[.ref S, .str x t], []⟩)
      (fun fin s' => match fin with | .done f => R (.ok f) s' | .again c' => c'.quiet = true ∧ codeAny (model prog w) A c' R s') (fun e s' => R (.error e) s') s := by
  show wpAny _ _ (do let old ← Builtin.List.listItems (.ref S); Builtin.List.listUpdate (.ref S) (fun _ => #[]); letGo old.toList.reverse; Builtin.List.listExtendWith (.ref S) (.str x t) .none) _ _ s
  refine wpAny_bind ?_
  unfold Builtin.List.listItems
  refine wpAny_bind (wpAny_seqItems hS rfl (wpAny_pure ?_))
  show wpAny _ _ (updateSeq S (fun _ => #[]) >>= fun _ => letGo (#[] : Array Value).toList.reverse >>= fun _ => Builtin.List.listExtendWith (.ref S) (.str x t) .none) _ _ s
  refine wpAny_bind (wpAny_updateSeq hS rfl ?_)
  have hS₂ := Heap.get?_update_self (Obj.mapSeq (fun _ => (#[] : Array Value))) hS rfl
  have oth : ∀ b o, b ≠ S → s.heap.get? b = some o → (s.heap.update S (Obj.mapSeq (fun _ => (#[] : Array Value)))).get? b = some o :=
    fun b o hb e => (Heap.get?_update_other _ _ (Ne.symm hb)).trans e
  refine wpAny_bind (wpAny_letGo ?_)
  generalize hH : s.heap.update S (Obj.mapSeq (fun _ => (#[] : Array Value))) = H at hS₂ oth ⊢
  unfold Builtin.List.listExtendWith
  refine wpAny_bind (wpAny_typeOf (T := "str") (v := .str x t) rfl ?_)
  have h1 : Builtin.List.listSameRef (.ref S) (.str x t) = false := rfl
  have h2 : (Value.type "str" == Value.type "list") = false := by decide
  have h3 : (Value.type "str" == Value.type "tuple") = false := by decide
  simp only [h1, h2, h3, Bool.or_false, Bool.false_eq_true, if_false]
  refine wpAny_bind (wpAny_pyIter_str fun o St W hst => ?_)
  refine wpAny_bind (wpAny_holding ?_)
  unfold Builtin.List.listLengthHint
  refine wpAny_bind (wpAny_specialOf (T := "str") (v := .str x t) rfl PySem.F.str_len ?_)
  wp_delta
  refine wpAny_bind (wpAny_isInstance (T := "str") (v := .str x t) (b := true) rfl (by rw [isSubtype_type]; kernel_rfl) ?_)
  show wpAny _ A.in1 (typeOf (Value.str x t) >>= _) _ _ _
  refine wpAny_bind (wpAny_typeOf (T := "str") (v := .str x t) rfl ?_)
  refine wpAny_pure ?_
  rw [if_neg (by decide)]
  have hlt := Heap.lt_size hS₂
  have hSf : S ∉ [H.objs.size] := fun hm => by rw [List.mem_singleton.mp hm] at hlt; exact absurd hlt (Nat.lt_irrefl _)
  have hS3 := Heap.get?_push_of_some o hS₂
  refine wpAny_pure ⟨plainId_quiet PySem.F.plain_extend_loop _, codeAny_extend_loopS (W A.in1 hh).toS hn _ hSf _ x.cps.size 0 _ _ _ rfl (Nat.zero_le _) hst hS3 (ItemsOf.nil _) fun s' acc' c' hm hS' hacc => ?_⟩
  rw [Moved.eq_with hm]
  refine hR s'.heap s'.toks acc' c' (fun b ob hb e => hm.heap b ob (fun hmem => ?_) (Heap.get?_push_of_some _ (oth b ob hb e))) hS' hacc
  rcases List.mem_cons.mp hmem with h | h
  · exact hb h
  · have := Heap.lt_size (oth b ob hb e)
    rw [List.mem_singleton.mp h] at this
    exact absurd this (Nat.lt_irrefl _)
theorem list_text {Q : Value → Shared → Prop} (hh : A.handled = none) (x : Str) (t : Tok) (hn : x.cps.size ≤ sizeLine)
    (hQ : ∀ h' tk acc' c', (∀ b o, s.heap.get? b = some o → h'.get? b = some o) → h'.get? s.heap.objs.size = some { cls := .type "list", dict := none, data := .seq acc' c', slots := #[] } → ItemsOf (SignAt x) acc' x.cps.size → Q (.ref s.heap.objs.size) { s with heap := h', toks := tk }) :
    wpAny (model prog w) A (call (.type "list") [.str x t]) Q E s := by
  refine callType_codes (Q₁ := fun obj s₁ => obj = .ref s.heap.objs.size ∧ s₁ = { s with heap := s.heap.push { cls := .type "list", data := .seq #[] } }) PySem.F.called_list (PySem.F.typeCall_list_1 _) PySem.F.entry_list_init
    (code_list_new _ ⟨rfl, rfl⟩) fun obj s₁ h₁ => ?_
  obtain ⟨rfl, rfl⟩ := h₁
  have hS : (s.heap.push { cls := .type "list", data := .seq #[] }).get? s.heap.objs.size = some { cls := .type "list", data := .seq #[] } := Heap.get?_push_size _ rfl
  refine ⟨⟨_, hS, rfl⟩, PySem.F.args_list_init_2 _ _, list_text_init (A := A.in1) hh x t _ hS hn (fun h' tk acc' c' hk hS' hacc => ?_)⟩
  exact ⟨rfl, hQ h' tk acc' c' (fun b o e => hk b o (Nat.ne_of_lt (Heap.lt_size e)) (Heap.get?_push_of_some _ e)) hS' hacc⟩
end
theorem vals_of_get : ∀ {xs : List V} {us : List Value}, xs.length = us.length → (∀ (j : Nat) (u : Value), us[j]? = some u → ∃ x, xs[j]? = some x ∧ RelV x u) → Vals xs us
  | [], [], _, _ => .nil
  | [], u :: us, h, _ => by cases h
  | x :: xs, [], h, _ => by cases h
  | x :: xs, u :: us, h, k => by
    obtain ⟨y, e, r⟩ := k 0 u rfl
    have e : x = y := Option.some.inj e
    subst e
    exact .cons r (vals_of_get (Nat.succ.inj h) fun j v hv => k (j + 1) v hv)
def sgV (z : Str) : List V := z.cps.toList.map fun c => V.str ⟨#[c]⟩
def gLstX (K : PySem.W.Frag) : List V → Hp → VK → Prop := fun xs H Q => gLst K xs H Q ∨ ∃ z, xs = [.str z] ∧ z.cps.size ≤ sizeLine ∧ ∀ l, H l = none → Q (.ref l) (upd H l (.lst (sgV z)))
theorem call_gLstX {X : Cx} {K : PySem.W.Frag} (hK : X.K = K) (hc : X.calm = true) : CallR X (.type "list") (gLstX K) := by
  refine cr_or (call_gList hK) ?_
  intro pins s σ H xs us Q I r h
  obtain ⟨z, rfl, hz, q⟩ := h
  obtain ⟨u, rfl, t, rfl⟩ := vals1 r
  refine list_text (I.ok.hd hc) z t hz fun h' tk acc' c' hk hS hacc => ?_
  obtain ⟨hl, hi⟩ := hacc
  have hv : Vals (sgV z) acc'.toList := by
    refine vals_of_get (by unfold sgV; rw [List.length_map, Array.length_toList, Array.length_toList, hl]) fun j v hj => ?_
    rw [Array.getElem?_toList] at hj
    obtain ⟨c, u, hc, rfl⟩ := hi j v hj
    refine ⟨.str ⟨#[c]⟩, ?_, u, rfl⟩
    unfold sgV
    rw [List.getElem?_map, Array.getElem?_toList, hc]
    rfl
  exact ⟨.ref s.heap.objs.size, _, I.laid (t' := tk) hk (Nat.le_refl _) (show ObjOk X.prog X.w _ h' _ (.lst (sgV z)) from ⟨by unfold sgV; rw [List.length_map, Array.length_toList]; exact hz, acc'.toList, c', hv, by simpa using hS⟩), rfl, q _ (I.hok.fresh (Nat.le_refl _))⟩
theorem w_lstX {K : PySem.W.Frag} {H : Hp} {Q : VK} {z : Str} (hz : z.cps.size ≤ 10000) (k : ∀ l H', H l = none → Sm H H' → H' l = some (.lst (sgV z)) → Q (.ref l) H') : gLstX K [.str z] H Q :=
  .inr ⟨z, rfl, sz_of (by omega), fun l nl => k l _ nl (sm_new nl) upd_same⟩

/-! a program's names -/
def nm8 : List Str := ["s", "c", "h", "d", "q", "g", "i", "m"].map Str.ofString
def namesL (m n : Nat) (es : List Nat) : List Str := ((List.range m).map (nmS (Str.ofString "x")) ++ (List.range m).map (nmS (Str.ofString "y"))) ++ nm8 ++ (List.range m).map (nmS (Str.ofString "r")) ++ (List.range n).map (nmS (Str.ofString "l")) ++ es.map (nmS (Str.ofString "e"))

/-! two sorted lists of the same texts are alike -/
def leS (a b : Str) : Prop := a.cps.toList ≤ b.cps.toList
theorem leS_trans {a b c : Str} (h : leS a b) (k : leS b c) : leS a c := List.le_trans h k
theorem leS_antisymm {a b : Str} (h : leS a b) (k : leS b a) : a = b := by
  have e : a.cps.toList = b.cps.toList := List.le_antisymm h k
  cases a
  cases b
  exact congrArg Str.mk (Array.toList_inj.mp e)
theorem rise_le : ∀ (l : List Str) (p : Str), risingS p l = true → (∀ x ∈ l, leS p x) ∧ l.Pairwise leS
  | [], _, _ => ⟨(fun _ h => by cases h), .nil⟩
  | x :: r, p, h => by
    have h2 : (!PySem.Spec.ltCps x.cps.toList p.cps.toList && risingS x r) = true := h
    rw [Bool.and_eq_true] at h2
    obtain ⟨h3, h4⟩ := h2
    obtain ⟨h5, h6⟩ := rise_le r x h4
    have px : leS p x := by
      rw [PyProof.Rows.ltCps_eq] at h3
      have : ¬ x.cps.toList < p.cps.toList := fun z => by rw [decide_eq_true z] at h3; cases h3
      exact this
    refine ⟨fun y hy => ?_, .cons h5 h6⟩
    rcases List.mem_cons.mp hy with rfl | hy
    · exact px
    · exact leS_trans px (h5 y hy)
theorem sortedS_pw {l : List Str} (h : sortedS l = true) : l.Pairwise leS := by
  cases l with
  | nil => exact .nil
  | cons x r =>
    obtain ⟨h1, h2⟩ := rise_le r x h
    exact .cons h1 h2
theorem pwS_uniq : ∀ {xs ys : List Str}, xs.Perm ys → xs.Pairwise leS → ys.Pairwise leS → xs = ys
  | [], ys, p, _, _ => by rw [List.nil_perm.mp p]
  | a :: l, [], p, _, _ => by cases List.perm_nil.mp p
  | a :: l, b :: m, p, h, k => by
    obtain ⟨h1, h2⟩ := List.pairwise_cons.mp h
    obtain ⟨k1, k2⟩ := List.pairwise_cons.mp k
    have e : a = b := by
      rcases List.mem_cons.mp (p.mem_iff.mp List.mem_cons_self) with q | q
      · exact q
      · rcases List.mem_cons.mp (p.mem_iff.mpr List.mem_cons_self) with q2 | q2
        · exact q2.symm
        · exact leS_antisymm (h1 b q2) (k1 a q)
    subst e
    rw [pwS_uniq (List.perm_cons a |>.mp p) h2 k2]
theorem sortS_uniq {xs ys : List Str} (p : xs.Perm ys) (h : sortedS xs = true) (k : sortedS ys = true) : xs = ys := pwS_uniq p (sortedS_pw h) (sortedS_pw k)
/-! sorted(list of texts), sorted(dict with text keys) -/
theorem call_gSrtS {X : Cx} {K : PySem.W.Frag} (hK : X.K = K) : CallR X (.builtin "sorted") (rSortedS K) := by
  subst hK
  exact cr_sortedS
theorem w_srtS {K : PySem.W.Frag} {H : Hp} {Q : VK} {a : Addr} {xs : List Str} (h : SqL K H a (xs.map V.str)) (z : xs.length < 64) (k : ∀ ys p H', ys.Perm xs → sortedS ys = true → H p = none → Sm H H' → H' p = some (.lst (ys.map V.str)) → Q (.ref p) H') : rSortedS K [.ref a] H Q :=
  ⟨a, xs, rfl, h, z, fun ys p pr so np => k ys p _ pr so np (sm_new np) upd_same⟩
def gSrtDS : List V → Hp → VK → Prop := fun xs H Q => ∃ (a : Addr) (kvs : List (Key × V)) (ks : List Str), xs = [.ref a] ∧ Rd H a (.dK kvs) ∧ kvs.map (·.1) = ks.map Sum.inr ∧ ks.length < 64 ∧ ∀ ys p, ys.Perm ks → sortedS ys = true → H p = none → Q (.ref p) (upd H p (.lst (ys.map V.str)))
theorem call_gSrtDS {X : Cx} (hc : X.calm = true) : CallR X (.builtin "sorted") gSrtDS := call_sortedD hc
theorem w_srtDS {H : Hp} {Q : VK} {a : Addr} {kvs : List (Key × V)} {ks : List Str} (h : H a = some (.dK kvs)) (e : kvs.map (·.1) = ks.map Sum.inr) (z : ks.length < 64) (k : ∀ ys p H', ys.Perm ks → sortedS ys = true → H p = none → Sm H H' → H' p = some (.lst (ys.map V.str)) → Q (.ref p) H') : gSrtDS [.ref a] H Q :=
  ⟨a, kvs, ks, rfl, .inl h, e, z, fun ys p pr so np => k ys p _ pr so np (sm_new np) upd_same⟩

/-! all the parts of a term, with how deep each stands -/
def Tm.leaf : Tm → Bool
  | .op _ _ _ => false
  | _ => true
/-- no sign of a step is that of a number or a name -/
def Tm.opw : Tm → Prop
  | .op w a b => w ≠ Str.ofString "num" ∧ w ≠ Str.ofString "name" ∧ a.opw ∧ b.opw
  | _ => True
def allT : Tm → Nat → List (Tm × Nat)
  | .op w a b, d => (.op w a b, d) :: (allT a (d + 1) ++ allT b (d + 1))
  | .num n, d => [(.num n, d)]
  | .name s, d => [(.name s, d)]
def allS : List (Tm × Nat) → List (Tm × Nat)
  | [] => []
  | s :: S => allT s.1 s.2 ++ allS S
def ptw : List (Tm × Nat) → Nat
  | [] => 0
  | s :: S => s.1.wt + ptw S
theorem ptw_len : ∀ S : List (Tm × Nat), S.length ≤ ptw S
  | [] => Nat.le_refl _
  | s :: S => by
    have h1 := ptw_len S
    have h2 := s.1.wt_pos
    show S.length + 1 ≤ s.1.wt + ptw S
    omega
def OpS (S : List (Tm × Nat)) : Prop := ∀ s ∈ S, s.1.opw
def PtAt (K : PySem.W.Frag) (H : Hp) (q : V) (s : Tm × Nat) : Prop := ∃ p x, q = .ref p ∧ H p = some (.tup [x, .int ((s.2 : Nat) : Int)]) ∧ TmAt K H s.1 x
theorem PtAt.imp {K : PySem.W.Frag} {H H' : Hp} {q : V} {s : Tm × Nat} (h : Tk H H') (r : PtAt K H q s) : PtAt K H' q s := by
  obtain ⟨p, x, e, k, t⟩ := r
  exact ⟨p, x, e, h _ _ k, t.imp h⟩
theorem PtAt.sm {K : PySem.W.Frag} {H H' : Hp} {q : V} {s : Tm × Nat} (r : PtAt K H q s) (e : Sm H H') : PtAt K H' q s := r.imp (Tk.sm e)

/-! the names that stand in a program's sayings are the program's names -/
def Tm.nms : Tm → List Str
  | .num _ => []
  | .name z => [z]
  | .op _ a b => a.nms ++ b.nms
/-- the names among parts, in order -/
def nmsP : List (Tm × Nat) → List Str
  | [] => []
  | (.name z, _) :: S => z :: nmsP S
  | _ :: S => nmsP S
theorem nmsP_app : ∀ (S T : List (Tm × Nat)), nmsP (S ++ T) = nmsP S ++ nmsP T
  | [], _ => rfl
  | (.name z, d) :: S, T => by
    show z :: nmsP (S ++ T) = z :: (nmsP S ++ nmsP T)
    rw [nmsP_app S T]
  | (.num n, d) :: S, T => nmsP_app S T
  | (.op w a b, d) :: S, T => nmsP_app S T
theorem nmsP_all : ∀ (t : Tm) (d : Nat), nmsP (allT t d) = t.nms
  | .num _, _ => rfl
  | .name _, _ => rfl
  | .op w a b, d => by
    show nmsP (allT a (d + 1) ++ allT b (d + 1)) = a.nms ++ b.nms
    rw [nmsP_app, nmsP_all a, nmsP_all b]
/-- the names that stand in a saying, in sayings -/
def nmSay (s : SyW) : List Str := nmsP (allT s.2.1 0 ++ allT s.2.2 0)
theorem nmSay_eq (s : SyW) : nmSay s = s.2.1.nms ++ s.2.2.nms := by
  unfold nmSay
  rw [nmsP_app, nmsP_all, nmsP_all]
def nmSys (ss : List SyW) : List Str := ss.flatMap nmSay
theorem nmSys_snoc (ss : List SyW) (s : SyW) : nmSys (ss ++ [s]) = nmSys ss ++ nmSay s := by
  unfold nmSys
  rw [List.flatMap_append]
  simp
theorem mem_nmSys {ss : List SyW} {z : Str} : z ∈ nmSys ss ↔ ∃ s ∈ ss, z ∈ s.2.1.nms ∨ z ∈ s.2.2.nms := by
  unfold nmSys
  rw [List.mem_flatMap]
  constructor
  · rintro ⟨s, hs, h⟩
    rw [nmSay_eq, List.mem_append] at h
    exact ⟨s, hs, h⟩
  · rintro ⟨s, hs, h⟩
    exact ⟨s, hs, by rw [nmSay_eq, List.mem_append]; exact h⟩
theorem mem_foldT {z : Str} : ∀ (ts : List Tm) (a : Tm), z ∈ (ts.foldl (fun a b => Tm.op "plus" a b) a).nms ↔ z ∈ a.nms ∨ ∃ t ∈ ts, z ∈ t.nms
  | [], a => by simp
  | t :: ts, a => by
    rw [List.foldl_cons, mem_foldT ts]
    show z ∈ a.nms ++ t.nms ∨ _ ↔ _
    rw [List.mem_append]
    simp only [List.mem_cons]
    constructor
    · rintro ((h | h) | ⟨x, hx, h⟩)
      · exact .inl h
      · exact .inr ⟨t, .inl rfl, h⟩
      · exact .inr ⟨x, .inr hx, h⟩
    · rintro (h | ⟨x, rfl | hx, h⟩)
      · exact .inl (.inl h)
      · exact .inl (.inr h)
      · exact .inr ⟨x, hx, h⟩
theorem mem_sumT {z : Str} : ∀ (ts : List Tm), z ∈ (sumT ts).nms ↔ ∃ t ∈ ts, z ∈ t.nms
  | [] => by
    show z ∈ [] ↔ _
    simp
  | t :: ts => by
    show z ∈ (ts.foldl _ t).nms ↔ _
    rw [mem_foldT]
    simp
theorem mem_lsT {z : Str} {ks : List Nat} : z ∈ (sumT (lsT ks)).nms ↔ ∃ k ∈ ks, z = nmS "l" k := by
  rw [mem_sumT]
  unfold lsT
  constructor
  · rintro ⟨t, ht, h⟩
    obtain ⟨k, hk, rfl⟩ := List.mem_map.mp ht
    exact ⟨k, hk, List.mem_singleton.mp h⟩
  · rintro ⟨k, hk, rfl⟩
    exact ⟨_, List.mem_map.mpr ⟨k, hk, rfl⟩, List.mem_singleton.mpr rfl⟩
theorem mem_xs {z : Str} {m : Nat} : z ∈ (sumT ((List.range m).map fun j => Tm.name (nmS "x" j))).nms ↔ ∃ j < m, z = nmS "x" j := by
  rw [mem_sumT]
  constructor
  · rintro ⟨t, ht, h⟩
    obtain ⟨k, hk, rfl⟩ := List.mem_map.mp ht
    exact ⟨k, List.mem_range.mp hk, List.mem_singleton.mp h⟩
  · rintro ⟨k, hk, rfl⟩
    exact ⟨_, List.mem_map.mpr ⟨k, List.mem_range.mpr hk, rfl⟩, List.mem_singleton.mpr rfl⟩
theorem mem_namesL {z : Str} {m n : Nat} {es : List Nat} : z ∈ namesL m n es ↔ (∃ j < m, z = nmS "x" j) ∨ (∃ j < m, z = nmS "y" j) ∨ z ∈ nm8 ∨ (∃ j < m, z = nmS "r" j) ∨ (∃ k < n, z = nmS "l" k) ∨ (∃ e ∈ es, z = nmS "e" e) := by
  have h : ∀ (c : Str) (l : List Nat), z ∈ l.map (nmS c) ↔ ∃ j ∈ l, z = nmS c j := fun c l => by
    rw [List.mem_map]
    exact ⟨fun ⟨a, b, c⟩ => ⟨a, b, c.symm⟩, fun ⟨a, b, c⟩ => ⟨a, b, c.symm⟩⟩
  unfold namesL
  simp only [List.mem_append, h, List.mem_range]
  constructor
  · rintro (((((h | h) | h) | h) | h) | h)
    · exact .inl h
    · exact .inr (.inl h)
    · exact .inr (.inr (.inl h))
    · exact .inr (.inr (.inr (.inl h)))
    · exact .inr (.inr (.inr (.inr (.inl h))))
    · exact .inr (.inr (.inr (.inr (.inr h))))
  · rintro (h | h | h | h | h | h)
    · exact .inl (.inl (.inl (.inl (.inl h))))
    · exact .inl (.inl (.inl (.inl (.inr h))))
    · exact .inl (.inl (.inl (.inr h)))
    · exact .inl (.inl (.inr h))
    · exact .inl (.inr h)
    · exact .inr h
/-- no row but a stop or a go is the last one -/
theorem Prg.next {m : Nat} {rs : List Rw} (h : Prg m rs) {k : Nat} {r : Rw} (hk : rs[k]? = some r) (n1 : r ≠ .st) (n2 : ∀ g, r ≠ .go g) : k + 1 < rs.length := by
  obtain ⟨us, v, q, z⟩ := h.fin
  have hl := (List.getElem?_eq_some_iff.mp hk).1
  refine Nat.lt_of_not_le fun hle => ?_
  have hk2 : k = us.length := by
    rw [q, List.length_append] at hl hle
    have hl : k < us.length + 1 := hl
    have hle : us.length + 1 ≤ k + 1 := hle
    omega
  rw [q, hk2, List.getElem?_append_right (Nat.le_refl _), Nat.sub_self] at hk
  have e : v = r := Option.some.inj hk
  subst e
  cases v <;> first | exact n1 rfl | exact n2 _ rfl | exact z
theorem asked_of {m : Nat} {rs : List Rw} (h : Prg m rs) {k j g : Nat} (hk : rs[k]? = some (.br j g)) (n : g ≠ k + 1) : j ∈ asked m rs := by
  have hl := (List.getElem?_eq_some_iff.mp hk).1
  have ho := h.ok _ (List.mem_of_getElem? hk)
  refine List.mem_filter.mpr ⟨List.mem_range.mpr ho.1, List.any_eq_true.mpr ⟨k, List.mem_range.mpr hl, ?_⟩⟩
  rw [isAsk_br hk, decide_eq_true rfl, decide_eq_true n]
  rfl
theorem nm8_mem {z : Str} : z ∈ nm8 ↔ z = "s" ∨ z = "c" ∨ z = "h" ∨ z = "d" ∨ z = "q" ∨ z = "g" ∨ z = "i" ∨ z = "m" := by
  unfold nm8
  simp only [List.map_cons, List.map_nil, List.mem_cons, List.not_mem_nil, or_false]
theorem nms_in {m : Nat} {rs : List Rw} (h : Prg m rs) {z : Str} (hz : z ∈ nmSys (sysOf m rs)) : z ∈ namesL m rs.length (asked m rs) := by
  obtain ⟨s, hs, hz⟩ := mem_nmSys.mp hz
  rw [mem_namesL]
  have X : ∀ j, j < m → z = nmS "x" j → _ := fun j hj e => (Or.inl ⟨j, hj, e⟩ : (∃ j < m, z = nmS "x" j) ∨ (∃ j < m, z = nmS "y" j) ∨ z ∈ nm8 ∨ (∃ j < m, z = nmS "r" j) ∨ (∃ k < rs.length, z = nmS "l" k) ∨ (∃ e ∈ asked m rs, z = nmS "e" e))
  have Y : ∀ j, j < m → z = nmS "y" j → (∃ j < m, z = nmS "x" j) ∨ (∃ j < m, z = nmS "y" j) ∨ z ∈ nm8 ∨ (∃ j < m, z = nmS "r" j) ∨ (∃ k < rs.length, z = nmS "l" k) ∨ (∃ e ∈ asked m rs, z = nmS "e" e) := fun j hj e => .inr (.inl ⟨j, hj, e⟩)
  have N : (z = "s" ∨ z = "c" ∨ z = "h" ∨ z = "d" ∨ z = "q" ∨ z = "g" ∨ z = "i" ∨ z = "m") → (∃ j < m, z = nmS "x" j) ∨ (∃ j < m, z = nmS "y" j) ∨ z ∈ nm8 ∨ (∃ j < m, z = nmS "r" j) ∨ (∃ k < rs.length, z = nmS "l" k) ∨ (∃ e ∈ asked m rs, z = nmS "e" e) := fun e => .inr (.inr (.inl (nm8_mem.mpr e)))
  have R : ∀ j, j < m → z = nmS "r" j → (∃ j < m, z = nmS "x" j) ∨ (∃ j < m, z = nmS "y" j) ∨ z ∈ nm8 ∨ (∃ j < m, z = nmS "r" j) ∨ (∃ k < rs.length, z = nmS "l" k) ∨ (∃ e ∈ asked m rs, z = nmS "e" e) := fun j hj e => .inr (.inr (.inr (.inl ⟨j, hj, e⟩)))
  have L : ∀ k, k < rs.length → z = nmS "l" k → (∃ j < m, z = nmS "x" j) ∨ (∃ j < m, z = nmS "y" j) ∨ z ∈ nm8 ∨ (∃ j < m, z = nmS "r" j) ∨ (∃ k < rs.length, z = nmS "l" k) ∨ (∃ e ∈ asked m rs, z = nmS "e" e) := fun k hk e => .inr (.inr (.inr (.inr (.inl ⟨k, hk, e⟩))))
  have W : ∀ j, j ∈ asked m rs → z = nmS "e" j → (∃ j < m, z = nmS "x" j) ∨ (∃ j < m, z = nmS "y" j) ∨ z ∈ nm8 ∨ (∃ j < m, z = nmS "r" j) ∨ (∃ k < rs.length, z = nmS "l" k) ∨ (∃ e ∈ asked m rs, z = nmS "e" e) := fun j hj e => .inr (.inr (.inr (.inr (.inr ⟨j, hj, e⟩))))
  have X : ∀ j, j < m → z = nmS "x" j → (∃ j < m, z = nmS "x" j) ∨ (∃ j < m, z = nmS "y" j) ∨ z ∈ nm8 ∨ (∃ j < m, z = nmS "r" j) ∨ (∃ k < rs.length, z = nmS "l" k) ∨ (∃ e ∈ asked m rs, z = nmS "e" e) := X
  obtain ⟨G, hG⟩ : ∃ G : Prop, G = ((∃ j < m, z = nmS "x" j) ∨ (∃ j < m, z = nmS "y" j) ∨ z ∈ nm8 ∨ (∃ j < m, z = nmS "r" j) ∨ (∃ k < rs.length, z = nmS "l" k) ∨ (∃ e ∈ asked m rs, z = nmS "e" e)) := ⟨_, rfl⟩
  rw [← hG] at X Y N R L W ⊢
  have one : ∀ {c : Str}, z ∈ (Tm.name c).nms → z = c := fun q => List.mem_singleton.mp q
  have two : ∀ {w : Str} {a b : Tm}, z ∈ (Tm.op w a b).nms → z ∈ a.nms ∨ z ∈ b.nms := fun q => List.mem_append.mp q
  have non : ∀ {n : Nat}, z ∈ (Tm.num n).nms → False := fun q => by cases q
  have T : z ∈ topT.nms → G := fun q => by
    rcases two q with q | q
    · exact (non q).elim
    rcases two q with q | q
    · exact N (by rw [one q]; simp)
    rcases two q with q | q
    · exact N (by rw [one q]; simp)
    · exact (non q).elim
  have LS : ∀ {ks : List Nat}, (∀ k ∈ ks, k < rs.length) → z ∈ (sumT (lsT ks)).nms → G := fun hks q => by
    obtain ⟨k, hk, e⟩ := mem_lsT.mp q
    exact L k (hks k hk) e
  unfold sysOf at hs
  rcases List.mem_append.mp hs with hs | hs
  · rcases List.mem_append.mp hs with hs | hs
    · rcases List.mem_append.mp hs with hs | hs
      · unfold baseS at hs
        simp only [List.mem_cons, List.not_mem_nil, or_false] at hs
        rcases hs with rfl | rfl | rfl | rfl | rfl | rfl
        · rcases hz with q | q
          · exact N (by rw [one q]; simp)
          rcases two q with q | q
          · rcases two q with q | q
            · obtain ⟨j, hj, e⟩ := mem_xs.mp q
              exact X j hj e
            · exact (non q).elim
          · exact N (by rw [one q]; simp)
        · rcases hz with q | q
          · exact N (by rw [one q]; simp)
          rcases two q with q | q
          · exact (non q).elim
          · exact N (by rw [one q]; simp)
        · rcases hz with q | q
          · exact N (by rw [one q]; simp)
          rcases two q with q | q
          · exact (non q).elim
          · exact N (by rw [one q]; simp)
        · rcases hz with q | q
          · exact N (by rw [one q]; simp)
          rcases two q with q | q
          · exact (non q).elim
          · exact N (by rw [one q]; simp)
        · rcases hz with q | q
          · rcases two q with q | q
            · rcases two q with q | q
              · exact N (by rw [one q]; simp)
              · exact N (by rw [one q]; simp)
            · exact (non q).elim
          · rcases two q with q | q
            · exact T q
            · exact N (by rw [one q]; simp)
        · rcases hz with q | q
          · rcases two q with q | q
            · exact N (by rw [one q]; simp)
            · exact N (by rw [one q]; simp)
          · rcases two q with q | q
            · exact N (by rw [one q]; simp)
            · exact N (by rw [one q]; simp)
      · unfold timeS at hs
        rcases List.mem_append.mp hs with hs | hs
        · rcases List.mem_append.mp hs with hs | hs
          · rcases List.mem_append.mp hs with hs | hs
            · rcases List.mem_append.mp hs with hs | hs
              · rcases List.mem_append.mp hs with hs | hs
                · obtain ⟨j, hj, rfl⟩ := List.mem_map.mp hs
                  rcases hz with q | q
                  · exact R j (List.mem_range.mp hj) (one q)
                  · exact N (by rw [one q]; simp)
                · obtain ⟨j, hj, rfl⟩ := List.mem_map.mp hs
                  rcases hz with q | q
                  · exact L j (List.mem_range.mp hj) (one q)
                  · exact N (by rw [one q]; simp)
              · rw [List.mem_singleton.mp hs] at hz
                rcases hz with q | q
                · exact LS (fun k hk => List.mem_range.mp hk) q
                · exact N (by rw [one q]; simp)
            · rw [List.mem_singleton.mp hs] at hz
              rcases hz with q | q
              · exact (non q).elim
              · exact L 0 h.pos (one q)
          · rw [List.mem_singleton.mp hs] at hz
            rcases hz with q | q
            · exact LS (fun k hk => List.mem_range.mp (List.mem_filter.mp hk).1) q
            · rcases two q with q | q
              · exact (non q).elim
              rcases two q with q | q
              · exact N (by rw [one q]; simp)
              · exact N (by rw [one q]; simp)
        · obtain ⟨j, hj, rfl⟩ := List.mem_map.mp hs
          rcases hz with q | q
          · rcases two q with q | q
            · exact W j hj (one q)
            rcases two q with q | q
            · exact (non q).elim
            · exact R j (asked_lt j hj) (one q)
          · rcases two q with q | q
            · exact N (by rw [one q]; simp)
            · exact N (by rw [one q]; simp)
    · unfold rowsS at hs
      obtain ⟨l, hl, hsl⟩ := List.mem_flatten.mp hs
      obtain ⟨k, hk, rfl⟩ := List.mem_map.mp hl
      have hk := List.mem_range.mp hk
      obtain ⟨r, hr⟩ : ∃ r, rs[k]? = some r := ⟨_, List.getElem?_eq_getElem hk⟩
      have ho := h.ok r (List.mem_of_getElem? hr)
      have QL : z ∈ (Tm.op "times" (.name "q") (.name (nmS "l" k))).nms → G := fun q => by
        rcases two q with q | q
        · exact N (by rw [one q]; simp)
        · exact L k hk (one q)
      unfold rowS at hsl
      rw [hr] at hsl
      cases r with
      | st => cases hsl
      | go g =>
        rw [List.mem_singleton.mp hsl] at hz
        rcases hz with q | q
        · exact QL q
        · exact L g ho (one q)
      | up j =>
        have hn := h.next hr (by intro e; cases e) (by intro g e; cases e)
        rw [List.mem_singleton.mp hsl] at hz
        rcases hz with q | q
        · exact QL q
        · exact L (k + 1) hn (one q)
      | dn j =>
        have hn := h.next hr (by intro e; cases e) (by intro g e; cases e)
        rw [List.mem_singleton.mp hsl] at hz
        rcases hz with q | q
        · exact QL q
        · exact L (k + 1) hn (one q)
      | br j g =>
        have hn := h.next hr (by intro e; cases e) (by intro g e; cases e)
        by_cases e : g = k + 1
        · have hsl : s ∈ [undr (Tm.op "times" (.name "q") (.name (nmS "l" k))) (.name (nmS "l" (k + 1)))] := by
            have : s ∈ (if g = k + 1 then _ else _ : List SyW) := hsl
            rw [if_pos e] at this
            exact this
          rw [List.mem_singleton.mp hsl] at hz
          rcases hz with q | q
          · exact QL q
          · exact L (k + 1) hn (one q)
        · have hsl : s ∈ [undr (Tm.op "times" (.name "q") (.name (nmS "l" k))) (.op "plus" (.name (nmS "l" g)) (.name (nmS "l" (k + 1)))), undr (Tm.op "times" (.name "q") (.name (nmS "l" k))) (.op "plus" (.name (nmS "l" (k + 1))) (.name (nmS "e" j)))] := by
            have : s ∈ (if g = k + 1 then _ else _ : List SyW) := hsl
            rw [if_neg e] at this
            exact this
          rcases List.mem_cons.mp hsl with rfl | hsl
          · rcases hz with q | q
            · exact QL q
            rcases two q with q | q
            · exact L g ho.2 (one q)
            · exact L (k + 1) hn (one q)
          · rw [List.mem_singleton.mp hsl] at hz
            rcases hz with q | q
            · exact QL q
            rcases two q with q | q
            · exact L (k + 1) hn (one q)
            · exact W j (asked_of h hr e) (one q)
  · obtain ⟨j, hj, rfl⟩ := List.mem_map.mp hs
    have hj := List.mem_range.mp hj
    have PL : ∀ q0, ∀ k ∈ plc rs q0 rs.length, k < rs.length := fun q0 k hk => List.mem_range.mp (List.mem_filter.mp hk).1
    rcases hz with q | q
    · rcases two q with q | q
      · rcases two q with q | q
        · exact N (by rw [one q]; simp)
        rcases two q with q | q
        · exact R j hj (one q)
        · exact LS (PL _) q
      · exact X j hj (one q)
    · rcases two q with q | q
      · rcases two q with q | q
        · exact R j hj (one q)
        rcases two q with q | q
        · exact N (by rw [one q]; simp)
        · exact LS (PL _) q
      · rcases two q with q | q
        · exact T q
        · exact Y j hj (one q)
theorem in_nms {m : Nat} {rs : List Rw} {z : Str} (hz : z ∈ namesL m rs.length (asked m rs)) : z ∈ nmSys (sysOf m rs) := by
  rw [mem_nmSys]
  have B : ∀ s ∈ baseS m rs.length, s ∈ sysOf m rs := fun s hs => List.mem_append_left _ (List.mem_append_left _ (List.mem_append_left _ hs))
  have T : ∀ s ∈ timeS m rs, s ∈ sysOf m rs := fun s hs => List.mem_append_left _ (List.mem_append_left _ (List.mem_append_right _ hs))
  have b1 : ∀ s, s ∈ baseS m rs.length ↔ _ := fun s => by
    unfold baseS
    simp only [List.mem_cons, List.not_mem_nil, or_false]
    exact Iff.rfl
  have self : ∀ {c : Str}, c ∈ (Tm.name c).nms := fun {c} => List.mem_singleton.mpr rfl
  have lf : ∀ {w : Str} {a b : Tm} {y : Str}, y ∈ a.nms → y ∈ (Tm.op w a b).nms := fun q => List.mem_append_left _ q
  have rt : ∀ {w : Str} {a b : Tm} {y : Str}, y ∈ b.nms → y ∈ (Tm.op w a b).nms := fun q => List.mem_append_right _ q
  rcases mem_namesL.mp hz with ⟨j, hj, e⟩ | ⟨j, hj, e⟩ | e | ⟨j, hj, e⟩ | ⟨k, hk, e⟩ | ⟨j, hj, e⟩
  · exact ⟨_, B _ ((b1 _).mpr (.inl rfl)), .inr (lf (lf (mem_xs.mpr ⟨j, hj, e⟩)))⟩
  · exact ⟨boxS rs j, List.mem_append_right _ (List.mem_map.mpr ⟨j, List.mem_range.mpr hj, rfl⟩), .inr (by rw [e]; exact rt (rt self))⟩
  · rcases nm8_mem.mp e with rfl | rfl | rfl | rfl | rfl | rfl | rfl | rfl
    · exact ⟨_, B _ ((b1 _).mpr (.inr (.inr (.inr (.inr (.inl rfl)))))), .inr (lf (rt (rt (lf self))))⟩
    · exact ⟨_, B _ ((b1 _).mpr (.inr (.inr (.inl rfl)))), .inr (rt self)⟩
    · exact ⟨_, B _ ((b1 _).mpr (.inl rfl)), .inl self⟩
    · exact ⟨_, B _ ((b1 _).mpr (.inl rfl)), .inr (rt self)⟩
    · exact ⟨_, B _ ((b1 _).mpr (.inr (.inl rfl))), .inl self⟩
    · exact ⟨_, B _ ((b1 _).mpr (.inr (.inr (.inr (.inl rfl))))), .inr (rt self)⟩
    · exact ⟨_, B _ ((b1 _).mpr (.inr (.inr (.inr (.inr (.inl rfl)))))), .inl (lf (rt self))⟩
    · exact ⟨_, B _ ((b1 _).mpr (.inr (.inr (.inr (.inr (.inr rfl)))))), .inl (lf self)⟩
  · exact ⟨_, T _ (by unfold timeS; exact List.mem_append_left _ (List.mem_append_left _ (List.mem_append_left _ (List.mem_append_left _ (List.mem_append_left _ (List.mem_map.mpr ⟨j, List.mem_range.mpr hj, rfl⟩)))))), .inl (by rw [e]; exact self)⟩
  · exact ⟨_, T _ (by unfold timeS; exact List.mem_append_left _ (List.mem_append_left _ (List.mem_append_left _ (List.mem_append_left _ (List.mem_append_right _ (List.mem_map.mpr ⟨k, List.mem_range.mpr hk, rfl⟩)))))), .inl (by rw [e]; exact self)⟩
  · exact ⟨_, T _ (by unfold timeS; exact List.mem_append_right _ (List.mem_map.mpr ⟨j, hj, rfl⟩)), .inl (by rw [e]; exact lf self)⟩
theorem names_full : (namesL 5 14 [0, 1, 2, 3, 4]).Nodup := by decide +kernel
theorem range_sub {m n : Nat} (h : m ≤ n) : (List.range m).Sublist (List.range n) := by
  rw [show n = m + (n - m) by omega, List.range_add]
  exact List.sublist_append_left _ _
theorem names_sub {m n : Nat} {es : List Nat} (hm : m ≤ 5) (hn : n ≤ 14) (he : es.Sublist (List.range m)) : (namesL m n es).Sublist (namesL 5 14 [0, 1, 2, 3, 4]) := by
  have e5 := range_sub hm
  have e14 := range_sub hn
  unfold namesL
  exact (((((e5.map _).append (e5.map _)).append (List.Sublist.refl _)).append (e5.map _)).append (e14.map _)).append ((he.trans e5).map _)
theorem asked_sub (m : Nat) (rs : List Rw) : (asked m rs).Sublist (List.range m) := List.filter_sublist
theorem names_nodup {m : Nat} {rs : List Rw} (h : Prg m rs) : (namesL m rs.length (asked m rs)).Nodup := (names_sub h.b5 h.len (asked_sub m rs)).nodup names_full
theorem names_len {m : Nat} {rs : List Rw} (h : Prg m rs) : (namesL m rs.length (asked m rs)).length ≤ 42 := (names_sub h.b5 h.len (asked_sub m rs)).length_le
theorem nodup_len {α : Type} [DecidableEq α] : ∀ {l k : List α}, l.Nodup → (∀ z ∈ l, z ∈ k) → l.length ≤ k.length
  | [], _, _, _ => Nat.zero_le _
  | a :: l, k, n, h => by
    obtain ⟨n1, n2⟩ := List.nodup_cons.mp n
    have ha := h a List.mem_cons_self
    have e := List.length_erase_of_mem ha
    have ih := nodup_len (l := l) (k := k.erase a) n2 fun z hz => (List.mem_erase_of_ne (fun q => n1 (by rw [← q]; exact hz))).mpr (h z (List.mem_cons_of_mem _ hz))
    have : 0 < k.length := List.length_pos_of_mem ha
    show l.length + 1 ≤ k.length
    omega
/-- two sorted lists of the same texts, each once -/
theorem sortS_set {xs ys : List Str} (hx : xs.Nodup) (hy : ys.Nodup) (h : ∀ z, z ∈ xs ↔ z ∈ ys) (sx : sortedS xs = true) (sy : sortedS ys = true) : xs = ys := by
  have p : ∀ {xs ys : List Str}, xs.Nodup → ys.Nodup → (∀ z, z ∈ xs ↔ z ∈ ys) → xs.Perm ys := by
    intro xs
    induction xs with
    | nil =>
      intro ys _ _ h
      cases ys with
      | nil => exact .nil
      | cons a l => have := (h a).mpr List.mem_cons_self; cases this
    | cons a l ih =>
      intro ys n k h
      obtain ⟨n1, n2⟩ := List.nodup_cons.mp n
      have ha := (h a).mp List.mem_cons_self
      refine (List.Perm.cons a (ih n2 (k.erase a) fun z => ?_)).trans (List.perm_cons_erase ha).symm
      rw [List.Nodup.mem_erase_iff k]
      constructor
      · intro hz
        exact ⟨fun e => n1 (e ▸ hz), (h z).mp (List.mem_cons_of_mem _ hz)⟩
      · rintro ⟨e, hz⟩
        rcases List.mem_cons.mp ((h z).mpr hz) with q | q
        · exact absurd q e
        · exact q
  exact sortS_uniq (p hx hy h) sx sy
theorem allT_len : ∀ (t : Tm) (d : Nat), (allT t d).length ≤ t.wt
  | .num _, _ => Nat.le_refl _
  | .name _, _ => Nat.le_refl _
  | .op w a b, d => by
    have h1 := allT_len a (d + 1)
    have h2 := allT_len b (d + 1)
    show (allT a (d + 1) ++ allT b (d + 1)).length + 1 ≤ a.wt + b.wt + 2
    rw [List.length_append]
    omega
theorem allT_op : ∀ {t : Tm} {d : Nat}, t.opw → OpS (allT t d)
  | .num _, _, h => fun s hs => by rw [List.mem_singleton.mp hs]; exact h
  | .name _, _, h => fun s hs => by rw [List.mem_singleton.mp hs]; exact h
  | .op w a b, d, h => fun s hs => by
    rcases List.mem_cons.mp hs with rfl | hs
    · exact h
    rcases List.mem_append.mp hs with hs | hs
    · exact allT_op h.2.2.1 s hs
    · exact allT_op h.2.2.2 s hs
def SayOk (s : SyW) : Prop := s.2.1.opw ∧ s.2.2.opw ∧ s.2.1.wt ≤ 1000 ∧ s.2.2.wt ≤ 1000
/-! the sayings of a program are terms of few parts -/
theorem opPl {a b : Tm} (h : a.opw) (k : b.opw) : (Tm.op "plus" a b).opw := ⟨by decide +kernel, by decide +kernel, h, k⟩
theorem opMl {a b : Tm} (h : a.opw) (k : b.opw) : (Tm.op "times" a b).opw := ⟨by decide +kernel, by decide +kernel, h, k⟩
theorem opPw {a b : Tm} (h : a.opw) (k : b.opw) : (Tm.op "power" a b).opw := ⟨by decide +kernel, by decide +kernel, h, k⟩
theorem opw_fold : ∀ (ts : List Tm) (a : Tm), a.opw → (∀ t ∈ ts, t.opw ∧ t.wt = 1) → (ts.foldl (fun a b => Tm.op "plus" a b) a).opw ∧ (ts.foldl (fun a b => Tm.op "plus" a b) a).wt = a.wt + 3 * ts.length
  | [], a, h, _ => ⟨h, by simp⟩
  | t :: ts, a, h, k => by
    obtain ⟨k1, k2⟩ := k t List.mem_cons_self
    obtain ⟨h1, h2⟩ := opw_fold ts (.op "plus" a t) (opPl h k1) fun x hx => k x (List.mem_cons_of_mem _ hx)
    refine ⟨h1, ?_⟩
    rw [List.foldl_cons, h2]
    show a.wt + t.wt + 2 + _ = _
    rw [List.length_cons]
    omega
theorem opw_sum : ∀ (ts : List Tm), (∀ t ∈ ts, t.opw ∧ t.wt = 1) → (sumT ts).opw ∧ (sumT ts).wt ≤ 3 * ts.length + 1
  | [], _ => ⟨trivial, by show 1 ≤ _; omega⟩
  | t :: ts, h => by
    obtain ⟨k1, k2⟩ := h t List.mem_cons_self
    obtain ⟨h1, h2⟩ := opw_fold ts t k1 fun x hx => h x (List.mem_cons_of_mem _ hx)
    refine ⟨h1, ?_⟩
    show (ts.foldl _ t).wt ≤ _
    rw [h2, List.length_cons]
    omega
theorem opw_ls (ks : List Nat) : (sumT (lsT ks)).opw ∧ (sumT (lsT ks)).wt ≤ 3 * ks.length + 1 := by
  have h := opw_sum (lsT ks) fun t ht => by
    obtain ⟨k, _, rfl⟩ := List.mem_map.mp ht
    exact ⟨trivial, rfl⟩
  rw [lsT_len] at h
  exact h
theorem opw_xs (m : Nat) : (sumT ((List.range m).map fun j => Tm.name (nmS "x" j))).opw ∧ (sumT ((List.range m).map fun j => Tm.name (nmS "x" j))).wt ≤ 3 * m + 1 := by
  have h := opw_sum ((List.range m).map fun j => Tm.name (nmS "x" j)) fun t ht => by
    obtain ⟨k, _, rfl⟩ := List.mem_map.mp ht
    exact ⟨trivial, rfl⟩
  rw [List.length_map, List.length_range] at h
  exact h
theorem sys_ok {m : Nat} {rs : List Rw} (h : Prg m rs) : ∀ s ∈ sysOf m rs, SayOk s := by
  intro s hs
  have h14 := h.len
  have h5 := h.b5
  have x1 := opw_xs m
  have top : topT.opw := opPw trivial (opMl trivial (opPl trivial trivial))
  have tw : topT.wt = 10 := rfl
  have base : ∀ {a b : Tm}, a.opw → b.opw → a.wt ≤ 1000 → b.wt ≤ 1000 → ∀ {w : Str}, SayOk (w, a, b) := fun h1 h2 h3 h4 => ⟨h1, h2, h3, h4⟩
  unfold sysOf at hs
  rcases List.mem_append.mp hs with hs | hs
  · rcases List.mem_append.mp hs with hs | hs
    · rcases List.mem_append.mp hs with hs | hs
      · unfold baseS at hs
        simp only [List.mem_cons, List.not_mem_nil, or_false] at hs
        rcases hs with rfl | rfl | rfl | rfl | rfl | rfl
        · refine base ?_ ?_ ?_ ?_
          · exact trivial
          · exact (opPl (opPl x1.1 trivial) trivial)
          · show _ ≤ 1000; (first | decide | (simp only [Tm.wt]; omega))
          · exact (by simp only [Tm.wt]; omega)
        · refine base ?_ ?_ ?_ ?_
          · exact trivial
          · exact (opMl trivial trivial)
          · show _ ≤ 1000; (first | decide | (simp only [Tm.wt]; omega))
          · show _ ≤ 1000; (first | decide | (simp only [Tm.wt]; omega))
        · refine base ?_ ?_ ?_ ?_
          · exact trivial
          · exact (opPw trivial trivial)
          · show _ ≤ 1000; (first | decide | (simp only [Tm.wt]; omega))
          · show _ ≤ 1000; (first | decide | (simp only [Tm.wt]; omega))
        · refine base ?_ ?_ ?_ ?_
          · exact trivial
          · exact (opPl trivial trivial)
          · show _ ≤ 1000; (first | decide | (simp only [Tm.wt]; omega))
          · exact (by simp only [Tm.wt]; omega)
        · refine base ?_ ?_ ?_ ?_
          · exact (opPl (opMl trivial trivial) trivial)
          · exact (opPl top trivial)
          · show _ ≤ 1000; (first | decide | (simp only [Tm.wt]; omega))
          · show _ ≤ 1000; (first | decide | (simp only [Tm.wt]; omega))
        · refine base ?_ ?_ ?_ ?_
          · exact (opPl trivial trivial)
          · exact (opMl trivial trivial)
          · show _ ≤ 1000; (first | decide | (simp only [Tm.wt]; omega))
          · show _ ≤ 1000; (first | decide | (simp only [Tm.wt]; omega))
      · unfold timeS at hs
        rcases List.mem_append.mp hs with hs | hs
        · rcases List.mem_append.mp hs with hs | hs
          · rcases List.mem_append.mp hs with hs | hs
            · rcases List.mem_append.mp hs with hs | hs
              · rcases List.mem_append.mp hs with hs | hs
                · obtain ⟨j, hj, rfl⟩ := List.mem_map.mp hs
                  refine base ?_ ?_ ?_ ?_
                  · exact trivial
                  · exact trivial
                  · show _ ≤ 1000; (first | decide | (simp only [Tm.wt]; omega))
                  · show _ ≤ 1000; (first | decide | (simp only [Tm.wt]; omega))
                · obtain ⟨j, hj, rfl⟩ := List.mem_map.mp hs
                  refine base ?_ ?_ ?_ ?_
                  · exact trivial
                  · exact trivial
                  · show _ ≤ 1000; (first | decide | (simp only [Tm.wt]; omega))
                  · show _ ≤ 1000; (first | decide | (simp only [Tm.wt]; omega))
              · rw [List.mem_singleton.mp hs]
                have := opw_ls (List.range rs.length)
                rw [List.length_range] at this
                refine base ?_ ?_ ?_ ?_
                · exact this.1
                · exact trivial
                · exact (by omega)
                · show _ ≤ 1000; (first | decide | (simp only [Tm.wt]; omega))
            · rw [List.mem_singleton.mp hs]
              refine base ?_ ?_ ?_ ?_
              · exact trivial
              · exact trivial
              · show _ ≤ 1000; (first | decide | (simp only [Tm.wt]; omega))
              · show _ ≤ 1000; (first | decide | (simp only [Tm.wt]; omega))
          · rw [List.mem_singleton.mp hs]
            have := opw_ls (stpK rs rs.length)
            have h2 := stpK_len rs rs.length
            refine base ?_ ?_ ?_ ?_
            · exact this.1
            · exact (opPw trivial (opMl trivial trivial))
            · exact (by omega)
            · show _ ≤ 1000; (first | decide | (simp only [Tm.wt]; omega))
        · obtain ⟨j, hj, rfl⟩ := List.mem_map.mp hs
          refine base ?_ ?_ ?_ ?_
          · exact (opPl trivial (opMl trivial trivial))
          · exact (opMl trivial trivial)
          · exact (by simp only [Tm.wt]; omega)
          · show _ ≤ 1000; (first | decide | (simp only [Tm.wt]; omega))
    · unfold rowsS at hs
      obtain ⟨l, hl, hsl⟩ := List.mem_flatten.mp hs
      obtain ⟨k, hk, rfl⟩ := List.mem_map.mp hl
      unfold rowS at hsl
      split at hsl
      · cases hsl
      · rw [List.mem_singleton.mp hsl]
        refine base ?_ ?_ ?_ ?_
        · exact (opMl trivial trivial)
        · exact trivial
        · exact (by simp only [Tm.wt]; omega)
        · exact (by simp only [Tm.wt]; omega)
      · split at hsl
        · rw [List.mem_singleton.mp hsl]
          refine base ?_ ?_ ?_ ?_
          · exact (opMl trivial trivial)
          · exact trivial
          · exact (by simp only [Tm.wt]; omega)
          · exact (by simp only [Tm.wt]; omega)
        · rcases List.mem_cons.mp hsl with rfl | hsl
          · refine base ?_ ?_ ?_ ?_
            · exact (opMl trivial trivial)
            · exact (opPl trivial trivial)
            · exact (by simp only [Tm.wt]; omega)
            · exact (by simp only [Tm.wt]; omega)
          · rw [List.mem_singleton.mp hsl]
            refine base ?_ ?_ ?_ ?_
            · exact (opMl trivial trivial)
            · exact (opPl trivial trivial)
            · exact (by simp only [Tm.wt]; omega)
            · exact (by simp only [Tm.wt]; omega)
      · rw [List.mem_singleton.mp hsl]
        refine base ?_ ?_ ?_ ?_
        · exact (opMl trivial trivial)
        · exact trivial
        · exact (by simp only [Tm.wt]; omega)
        · exact (by simp only [Tm.wt]; omega)
      · cases hsl
  · obtain ⟨j, hj, rfl⟩ := List.mem_map.mp hs
    have l1 := opw_ls (plc rs (.up j) rs.length)
    have l2 := opw_ls (plc rs (.dn j) rs.length)
    have e1 := plc_len rs (.up j) rs.length
    have e2 := plc_len rs (.dn j) rs.length
    refine base ?_ ?_ ?_ ?_
    · exact (opPl (opMl trivial (opPl trivial l1.1)) trivial)
    · exact (opPl (opPl trivial (opMl trivial l2.1)) (opMl top trivial))
    · exact (by simp only [Tm.wt]; omega)
    · exact (by simp only [Tm.wt]; omega)
theorem sys_64 {m : Nat} {rs : List Rw} (h : Prg m rs) : ∀ l : List Str, l.Nodup → (∀ z ∈ l, z ∈ nmSys (sysOf m rs)) → l.length < 64 := fun l hl hz => by
  have := nodup_len hl fun z h1 => nms_in h (hz z h1)
  have := names_len h
  omega

structure S32 (K : PySem.W.Frag) (H : Hp) (m n : Nat) (p X Y R L : Addr) (us xs ys ws ls : List V) (rs : List Rw) (c1 c2 vc vs vq vi vpk : V) : Prop where
  hp : H p = some (.lst us)
  hR : RwsAt H us rs
  gX : H X = some (.lst xs)
  hX : TmsAt K H xs ((List.range m).map fun j => .name (nmS "x" j))
  gY : H Y = some (.lst ys)
  hY : TmsAt K H ys ((List.range m).map fun j => .name (nmS "y" j))
  gR : H R = some (.lst ws)
  hW : TmsAt K H ws ((List.range m).map fun j => .name (nmS "r" j))
  gL : H L = some (.lst ls)
  hL : TmsAt K H ls (lsT (List.range n))
  t1 : TmAt K H (.num 1) c1
  t2 : TmAt K H (.num 2) c2
  tc : TmAt K H (.name "c") vc
  ts : TmAt K H (.name "s") vs
  tq : TmAt K H (.name "q") vq
  ti : TmAt K H (.name "i") vi
  tk : TmAt K H topT vpk
theorem S32.sm {K : PySem.W.Frag} {H H' : Hp} {m n : Nat} {p X Y R L : Addr} {us xs ys ws ls : List V} {rs : List Rw} {c1 c2 vc vs vq vi vpk : V} (h : S32 K H m n p X Y R L us xs ys ws ls rs c1 c2 vc vs vq vi vpk) (e : Sm H H') : S32 K H' m n p X Y R L us xs ys ws ls rs c1 c2 vc vs vq vi vpk :=
  ⟨e _ _ h.hp, h.hR.tk (Tk.sm e), e _ _ h.gX, TmsAt.sm h.hX e, e _ _ h.gY, TmsAt.sm h.hY e, e _ _ h.gR, TmsAt.sm h.hW e, e _ _ h.gL, TmsAt.sm h.hL e, h.t1.sm e, h.t2.sm e, h.tc.sm e, h.ts.sm e, h.tq.sm e, h.ti.sm e, h.tk.sm e⟩
theorem S32.kp {K : PySem.W.Frag} {H H' : Hp} {m n : Nat} {p X Y R L F : Addr} {us xs ys ws ls zs : List V} {rs : List Rw} {c1 c2 vc vs vq vi vpk : V} (h : S32 K H m n p X Y R L us xs ys ws ls rs c1 c2 vc vs vq vi vpk) (g : H F = some (.lst zs)) (e : Kp F H H') (n1 : p ≠ F) (n2 : X ≠ F) (n3 : Y ≠ F) (n4 : R ≠ F) (n5 : L ≠ F) : S32 K H' m n p X Y R L us xs ys ws ls rs c1 c2 vc vs vq vi vpk :=
  ⟨e _ _ n1 h.hp, h.hR.tk (Tk.kp g e), e _ _ n2 h.gX, h.hX.kpL g e, e _ _ n3 h.gY, h.hY.kpL g e, e _ _ n4 h.gR, h.hW.kpL g e, e _ _ n5 h.gL, h.hL.kpL g e, h.t1.kpL g e, h.t2.kpL g e, h.tc.kpL g e, h.ts.kpL g e, h.tq.kpL g e, h.ti.kpL g e, h.tk.kpL g e⟩
theorem S32.new {K : PySem.W.Frag} {H : Hp} {m n : Nat} {p X Y R L F : Addr} {us xs ys ws ls : List V} {rs : List Rw} {c1 c2 vc vs vq vi vpk : V} (h : S32 K H m n p X Y R L us xs ys ws ls rs c1 c2 vc vs vq vi vpk) (g : H F = none) : p ≠ F ∧ X ≠ F ∧ Y ≠ F ∧ R ≠ F ∧ L ≠ F :=
  ⟨ne_of_none h.hp g, ne_of_none h.gX g, ne_of_none h.gY g, ne_of_none h.gR g, ne_of_none h.gL g⟩
theorem lsg {n k : Nat} (hk : k < n) : (lsT (List.range n))[k]? = some (.name (nmS "l" k)) := by
  unfold lsT
  rw [List.getElem?_map, List.getElem?_range hk]
  rfl
theorem nmg {n k : Nat} {c : Str} (hk : k < n) : ((List.range n).map fun j => Tm.name (nmS c j))[k]? = some (.name (nmS c k)) := by
  rw [List.getElem?_map, List.getElem?_range hk]
  rfl
theorem lsT_snoc (l : List Nat) (k : Nat) : lsT (l ++ [k]) = lsT l ++ [.name (nmS "l" k)] := by
  unfold lsT
  rw [List.map_append]
  rfl
def askS (j : Nat) : SyW := same (.op "plus" (.name (nmS "e" j)) (.op "times" (.num 2) (.name (nmS "r" j)))) (.op "times" (.name "q") (.name "i"))
def p1S (m : Nat) (rs : List Rw) : List SyW := (baseS m rs.length ++ (List.range m).map (fun j => undr (.name (nmS "r" j)) (.name "m")) ++ (List.range rs.length).map (fun k => undr (.name (nmS "l" k)) (.name "i"))) ++ [same (sumT (lsT (List.range rs.length))) (.name "i"), undr (.num 1) (.name (nmS "l" 0))] ++ [same (sumT (lsT (stpK rs rs.length))) (pwAt (.name "s"))]
theorem p1_sys (m : Nat) (rs : List Rw) : p1S m rs ++ (asked m rs).map askS ++ rowsS rs rs.length ++ (List.range m).map (boxS rs) = sysOf m rs := by
  unfold p1S sysOf timeS
  simp only [List.append_assoc, List.cons_append, List.nil_append]
  rfl
/-- the comprehension over rows: done[k] of those alike -/
theorem lcPlc {K : PySem.W.Frag} {H : Hp} {Q : VK} {σ : L2.St} {vs : List Nat} {g : TG} {tt : TT} {te : TE} {p L : Addr} {us ls : List V} {rs : List Rw} {n : Nat} (q : Rw) (hp : H p = some (.lst us)) (hR : RwsAt H us rs) (gL : H L = some (.lst ls)) (hL : TmsAt K H ls (lsT (List.range n))) (hn : us.length ≤ n) (h14 : us.length ≤ 14)
    (hs : ∀ (D : Addr) (i : Nat) (t T : Addr) (r : Rw) (H' : Hp) (R1 R0 : Hp → Prop), H' T = some (.tup [.int (i : Nat), .ref t]) → H' t = some (.tup r.vs) → H' L = some (.lst ls) → TmsAt K H' ls (lsT (List.range n)) → i < n →
      (r = q → ∀ v H2, Sm H' H2 → TmAt K H2 (.name (nmS "l" i)) v → LcEnd D v R1 H2) → (r ≠ q → ∀ H2, Sm H' H2 → R0 H2) → g (.ref T) (wipe σ vs) H' fun σ2 H2 => LcGo vs σ σ2 (tt σ2 H2 fun b H3 => if b = true then te σ2 H3 fun y H4 => LcEnd D y R1 H4 else R0 H3))
    (k : ∀ D zs H', H D = none → Sm H H' → H' D = some (.lst zs) → TmsAt K H' zs (lsT (plc rs q rs.length)) → zs.length ≤ 14 → Q (.ref D) H') : LcL (Ite K p) g tt te vs σ H Q := by
  refine lcEn (xs := us) (fun D i H' => ∃ zs, H' D = some (.lst zs) ∧ TmsAt K H' zs (lsT (plc rs q i)) ∧ zs.length ≤ i ∧ Sm H H') (fun D H' nD sm hD => ⟨[], hD, .nil, Nat.le_refl _, sm⟩) (fun D i H' nD hi h => by obtain ⟨zs, _, _, _, sm⟩ := h; exact sq_of (sm _ _ hp)) ?_ ?_
  · rintro D i x T H1 H' nD hil hx ⟨zs, hD, hz, hzl, sm⟩ nT sT gT
    obtain ⟨r, hri, t, rfl, ht⟩ := paired_get hR hx
    have sm' := sm.trans sT
    have hD' := sT _ _ hD
    have hz' := TmsAt.sm hz sT
    refine hs D i t T r H' _ _ gT (sm' _ _ ht) (sm' _ _ gL) (TmsAt.sm hL sm') (by omega) (fun e v H2 s2 tv => ?_) (fun e H2 s2 => ?_)
    · refine w_lcEnd (s2 _ _ hD') (sz_lt (by omega)) (fun H3 k3 g3 => ?_)
      refine ⟨_, g3, ?_, by rw [List.length_append]; show zs.length + 1 ≤ _; omega, sm_mut (sm'.trans s2) nD k3⟩
      rw [plc_succ, if_pos (by rw [hri, e]), lsT_snoc]
      exact ((TmsAt.sm hz' s2).one tv).kpL (s2 _ _ hD') k3
    · refine ⟨zs, s2 _ _ hD', ?_, by omega, sm'.trans s2⟩
      rw [plc_succ, if_neg (by rw [hri]; exact fun z => e (Option.some.inj z)), List.append_nil]
      exact TmsAt.sm hz' s2
  · rintro D H' nD ⟨zs, hD, hz, hzl, sm⟩
    rw [paired_len hR] at hz
    exact k D zs H' nD sm hD hz (by omega)
/-! own classes: len, repr, str, truth, != of lists of them -/
/-- what is wished of an own method that stands behind a built-in -/
def rUnO (C : Addr) (sp : Sp) (E : XK) (g : V → Prop) : List V → Hp → VK → Prop := fun xs H Q => ∃ a dx fs, xs = [.ref a] ∧ H a = some (.ins C dx fs) ∧ sp [.ref a] H (fun v H' => g v ∧ Q v H') E
def IsLen (v : V) : Prop := ∃ i : Int, v = .int i ∧ 0 ≤ i ∧ i < 2 ^ 63
def IsStr (v : V) : Prop := ∃ z : Str, v = .str z
theorem own_at {X : Cx} {pins : List (Addr × Obj)} {σ : L2.St} {H : Hp} {s : Shared} {a C dx : Addr} {fs : List (Str × V)} (I : Inv X pins σ H s) (ha : H a = some (.ins C dx fs)) : ∃ ox od, PySem.W.InstAt s.heap a ox C od := by
  obtain ⟨mA, J, _⟩ := ins_get I.hok ha
  obtain ⟨od, J, _⟩ := J.look
  exact ⟨_, _, J⟩
section
variable {X : Cx} {CX : CXT} {C : Addr} {n : Nat} {ps : List Str} {sp : Sp} {E : XK}
theorem cr_lenO (G : DefO X.prog X.w X.K X.mg X.base CX C "__len__" n ps sp) (hr : RoomG (n + 1) X.A) (hx : Passes CX X E) : CallR X (.builtin "len") (rUnO C sp E IsLen) := by
  obtain ⟨f, fd, hs, hf, F, hb⟩ := G.ex
  intro pins s σ H xs us Q I rx h
  obtain ⟨a, dx, fs, rfl, ha, h⟩ := h
  obtain ⟨u, rfl, ru⟩ := vals1 rx
  cases ru
  obtain ⟨ox, od, J⟩ := own_at I ha
  obtain ⟨m, hF⟩ := I.fr
  refine PySem.W.len_K hF I.ok.mod.kin J hs hf ?_
  refine wpAny_mono (run_gA F hr.in1 rfl hb hx I (show Vals [V.ref a] [Value.ref a] from .cons rfl .nil) h) (fun r z q => ?_) fun _ _ e => e
  obtain ⟨v, H', I', rv, ⟨i, rfl, h0, h1⟩, q⟩ := q
  obtain ⟨t, rfl⟩ := rv
  exact ⟨⟨h0, h1⟩, .int i, H', I'.tok _, ⟨_, rfl⟩, q⟩
theorem cr_repO (G : DefO X.prog X.w X.K X.mg X.base CX C "__repr__" n ps sp) (hr : RoomG (n + 1) X.A) (hx : Passes CX X E) : CallR X (.builtin "repr") (rUnO C sp E IsStr) := by
  obtain ⟨f, fd, hs, hf, F, hb⟩ := G.ex
  intro pins s σ H xs us Q I rx h
  obtain ⟨a, dx, fs, rfl, ha, h⟩ := h
  obtain ⟨u, rfl, ru⟩ := vals1 rx
  cases ru
  obtain ⟨ox, od, J⟩ := own_at I ha
  obtain ⟨m, hF⟩ := I.fr
  refine PySem.W.repr_K (by have := hr.in1.units; omega) hF I.ok.mod.kin J hs hf ?_
  refine wpAny_mono (run_gA F hr.in1 rfl hb hx I (show Vals [V.ref a] [Value.ref a] from .cons rfl .nil) h) (fun r z q => ?_) fun _ _ e => e
  obtain ⟨v, H', I', rv, ⟨y, rfl⟩, q⟩ := q
  obtain ⟨t, rfl⟩ := rv
  exact ⟨.str y, H', I', ⟨_, rfl⟩, q⟩
theorem str_by {prog : Program} {w : World} {A : Around} {R E : Value → Shared → Prop} {s : Shared} {v : Value} (h : wpAny (model prog w) A.in1.in1 (Builtin.Str.strOf v) (fun r z => z.TypeIs r "str" ∧ R r z) E s) : wpAny (model prog w) A (call (.type "str") [v]) R E s := by
  refine PySem.callType_newIn F.called_str (by decide) (F.typeCall_str_1 _) (F.newCall_str_1 _) (fun obj => F.args_object_init_2 obj _) F.entry_str_new
    (S := fun B T z => wpAny (model prog w) B.in1 (Builtin.Str.strOf v) (fun r z' => T (.ok (.ret r)) z') (fun e z' => T (.error e) z') z) ?_ h
  intro B T z q
  rw [str_new_tree v]
  refine wpAny_bind (wpAny_pure (wpAny_bind (wpAny_of_eq isSubtype_str_str ?_)))
  exact wpAny_bind (wpAny_mono q (fun r z' q' => wpAny_pure q') fun _ _ e => e)
theorem cr_strO (G : DefO X.prog X.w X.K X.mg X.base CX C "__str__" n ps sp) (hr : RoomG (n + 2) X.A) (hx : Passes CX X E) : CallR X (.type "str") (rUnO C sp E IsStr) := by
  obtain ⟨f, fd, hs, hf, F, hb⟩ := G.ex
  intro pins s σ H xs us Q I rx h
  obtain ⟨a, dx, fs, rfl, ha, h⟩ := h
  obtain ⟨u, rfl, ru⟩ := vals1 rx
  cases ru
  obtain ⟨ox, od, J⟩ := own_at I ha
  refine str_by ?_
  unfold Builtin.Str.strOf
  refine wpAny_ite_split (fun q => absurd (show false = true from q) Bool.false_ne_true) (fun _ => ?_)
  refine wpAny_bind (wpAny_cRoomFor (by have := hr.in1.in1.units; omega) ?_)
  refine wpAny_bind (m := callSpecial? (.ref a) (Str.ofString "__str__")) (PySem.W.special_fn I.kIn J hs (beq_iff_eq.mp hf) ?_)
  refine wpAny_mono (run_gA F hr.in1.in1 rfl hb hx I (show Vals [V.ref a] [Value.ref a] from .cons rfl .nil) h) (fun r z q => ?_) fun _ _ e => e
  obtain ⟨v, H', I', rv, ⟨y, rfl⟩, q⟩ := q
  obtain ⟨t, rfl⟩ := rv
  refine wpAny_bind (wpAny_pure ?_)
  exact wpAny_pure ⟨typeIs_str _ _ _, .str y, H', I', ⟨_, rfl⟩, q⟩
end
theorem w_unO {C a dx : Addr} {fs : List (Str × V)} {sp : Sp} {E : XK} {g : V → Prop} {H : Hp} {Q : VK} (ha : H a = some (.ins C dx fs)) (k : sp [.ref a] H (fun v H' => g v ∧ Q v H') E) : rUnO C sp E g [.ref a] H Q := ⟨a, dx, fs, rfl, ha, k⟩
/-! lists of own things, != that finds all alike -/
theorem ne_loopL {prog : Program} {w : World} {A : Around} {R : Result → Shared → Prop} (l b : Addr) (N : Nat) (J : Nat → Shared → Prop) (hl : GQ.ListI prog w A (fun e z => R (.error e) z) l b N J) (fin : ∀ z, J N z → R (.ok (.ret (.bool false))) z) : ∀ (k i : Nat), N - i = k → i ≤ N → ∀ z, J i z →
    wpAny (model prog w) A.in1 (Builtin.«list.__eq__.loop» ⟨[.ref l, .ref b, rawInt i, rawInt 3], []⟩) (GQ.FinOf prog w A R) (fun e z' => R (.error e) z') z := by
  intro k
  induction k with
  | zero =>
    intro i hk hi z h
    obtain ⟨u1, u2, n1, n2, g1, g2, e1, e2, _⟩ := hl _ _ h
    have hR : R (.ok (.ret (.bool false))) z := fin z ((show i = N by omega) ▸ h)
    obtain ⟨hp, g, d, tk, os⟩ := z
    wp_walk using AutoSeq1.wpAny_loadPart' g1, AutoSeq1.wpAny_loadPart' g2
    have o1 : u1[((i : Nat) : Int).toNat]? = none := by simp; omega
    have o2 : u2[((i : Nat) : Int).toNat]? = none := by simp; omega
    rw [o1, o2]
    wp_walk using AutoSeq1.wpAny_loadPart' g1, AutoSeq1.wpAny_loadPart' g2
    show R (.ok (.ret (.bool (u1.size != u2.size)))) _
    rw [e1, e2, bne_self_eq_false]
    exact hR
  | succ k ih =>
    intro i hk hi z h
    obtain ⟨u1, u2, n1, n2, g1, g2, e1, e2, turn⟩ := hl _ _ h
    have l1 : i < u1.size := by omega
    have l2 : i < u2.size := by omega
    have ht := turn l1 l2
    obtain ⟨hp, g, d, tk, os⟩ := z
    wp_walk using AutoSeq1.wpAny_loadPart' g1, AutoSeq1.wpAny_loadPart' g2
    have o1 : u1[((i : Nat) : Int).toNat]? = some u1[i] := by simp [l1]
    have o2 : u2[((i : Nat) : Int).toNat]? = some u2[i] := by simp [l2]
    rw [o1, o2]
    refine wpAny_bind (wpAny_mono ht (fun r z2 q => ?_) fun _ _ x => x)
    obtain ⟨rfl, q⟩ := q
    have again := ih (i + 1) (by omega) (by omega) z2 q
    obtain ⟨hp2, g2', d2, tk2, os2⟩ := z2
    wp_walk
    rw [show ((i : Int) + 1) = ((i + 1 : Nat) : Int) by omega]
    exact ⟨PySem.plainId_quiet MeetsSeq3.plain_eq_loop _, codeAny_builtin MeetsSeq3.entry_eq_loop (by rw [Around.under_plainId MeetsSeq3.plain_eq_loop _]; exact again)⟩
theorem ne_listL {prog : Program} {w : World} {A : Around} {R : Result → Shared → Prop} (l b : Addr) (N : Nat) (J : Nat → Shared → Prop) (hl : GQ.ListI prog w A (fun e z => R (.error e) z) l b N J) (fin : ∀ z, J N z → R (.ok (.ret (.bool false))) z) {z : Shared} (h : J 0 z) :
    wpAny (model prog w) A.in1 (Builtin.«list.__ne__» ⟨[.ref l, .ref b], []⟩) (GQ.FinOf prog w A R) (fun e z' => R (.error e) z') z := by
  obtain ⟨u1, u2, n1, n2, g1, g2, e1, e2, _⟩ := hl _ _ h
  have again := ne_loopL (A := A) (R := R) l b N J hl fin _ 0 rfl (Nat.zero_le _) z h
  obtain ⟨hp, g, d, tk, os⟩ := z
  have f3 := AutoSeq1.sub_list_list
  have hne : ¬ (u1.size != u2.size) = true := by simp [e1, e2]
  wp_walk using AutoSeq1.wpAny_loadPart' g1, AutoSeq1.wpAny_loadPart' g2
  exact ⟨PySem.plainId_quiet MeetsSeq3.plain_eq_loop _, codeAny_builtin MeetsSeq3.entry_eq_loop (by rw [Around.under_plainId MeetsSeq3.plain_eq_loop _]; exact again)⟩
/-- xs != ys, two lists of things of a class with its own ==, which finds each pair alike -/
def rNeLO (C : Addr) (sp : Sp) (E : XK) : R2 := fun x y H Q => ∃ a b xs ys, x = .ref a ∧ y = .ref b ∧ H a = some (.lst xs) ∧ H b = some (.lst ys) ∧ Paired (fun x y => ∃ p q dx dy fs gs, x = .ref p ∧ y = .ref q ∧ H p = some (.ins C dx fs) ∧ H q = some (.ins C dy gs) ∧ ∀ H1, Sm H H1 → sp [.ref p, .ref q] H1 (fun v H2 => v = .bl true ∧ Sm H1 H2) E) xs ys ∧ ∀ H', Sm H H' → Q (.bl false) H'
theorem op_neLO {X : Cx} {CX : CXT} {C : Addr} {n : Nat} {ps : List Str} {sp : Sp} {E : XK} (G : DefO X.prog X.w X.K X.mg X.base CX C "__eq__" n ps sp) (hr : RoomG (n + 1) X.A) (hx : Passes CX X E) : OpR X (compareOp .NotEq) (rNeLO C sp E) := by
  obtain ⟨f, fd, hs, hf, F, hb⟩ := G.ex
  intro pins s σ H x y v u Q I rx ry h
  obtain ⟨a, b, xs, ys, rfl, rfl, ha, hb', hp, q⟩ := h
  cases rx
  cases ry
  show wpAny (model X.prog X.w) X.A (richCompare .NotEq (.ref a) (.ref b)) (EP X pins σ Q) X.xe s
  have hl : GQ.ListI X.prog X.w X.A X.xe a b xs.length (fun _ z => ∃ H1, Inv X pins σ H1 z ∧ Sm H H1) := by
    rintro i z ⟨H1, I1, s1⟩
    obtain ⟨z1, its, k1, r1, e1⟩ := I1.hok a _ (s1 _ _ ha)
    obtain ⟨z2, jts, k2, r2, e2⟩ := I1.hok b _ (s1 _ _ hb')
    have hpl : xs.length = ys.length := hp.length
    refine ⟨its.toArray, jts.toArray, k1, k2, e1, e2, by rw [List.size_toArray, ← r1.length], by rw [List.size_toArray, ← r2.length, hpl], fun h1 h2 => ?_⟩
    rw [List.size_toArray] at h1 h2
    have i1 : i < xs.length := by rw [r1.length]; exact h1
    have i2 : i < ys.length := by rw [r2.length]; exact h2
    obtain ⟨y, hy, p, q, dx, dy, fs, gs, e3, e4, gp, gq, hq⟩ := paired_get hp (List.getElem?_eq_getElem i1)
    obtain ⟨u, hu, ru⟩ := r1.get (List.getElem?_eq_getElem i1)
    obtain ⟨v, hv, rv⟩ := r2.get hy
    rw [List.getElem?_eq_getElem h1] at hu
    rw [List.getElem?_eq_getElem h2] at hv
    have eu : its.toArray[i] = u := by simpa using Option.some.inj hu
    have ev : jts.toArray[i] = v := by simpa using Option.some.inj hv
    rw [eu, ev]
    rw [e3] at ru
    rw [e4] at rv
    cases ru
    cases rv
    by_cases hpq : p = q
    · subst hpq
      exact SeqAt.EqAt.same (A := X.A.in1) (s := z) (.ref p) X.prog X.w X.xe _ ⟨rfl, H1, I1, s1⟩
    · refine GQ.eqBool_refG hpq ?_
      obtain ⟨ox, od, J1⟩ := own_at I1 (s1 _ _ gp)
      obtain ⟨oy, oe, J2⟩ := own_at I1 (s1 _ _ gq)
      obtain ⟨m, hF⟩ := I1.fr
      refine PySem.W.cmp_K (op := .Eq) (tb := .ref C) (by have := hr.in1.units; omega) hF I1.ok.mod.kin J1 J2.type (by simp [PySem.W.notFirst]) hs hf ?_
      refine wpAny_mono (run_gA F hr.in1 rfl hb hx I1 (show Vals [V.ref p, V.ref q] [Value.ref p, Value.ref q] from .cons rfl (.cons rfl .nil)) (hq H1 s1)) (fun r z' q' => ?_) fun _ _ e => e
      obtain ⟨v', H2, I2, rv', ⟨rfl, s2⟩, _⟩ : ∃ v' H2, Inv X pins σ H2 z' ∧ RelV v' r ∧ (v' = .bl true ∧ Sm H1 H2) ∧ True := by
        obtain ⟨v', H2, I2, rv', q2⟩ := q'
        exact ⟨v', H2, I2, rv', q2, trivial⟩
      cases rv'
      exact ⟨true, rfl, rfl, H2, I2, s1.trans s2⟩
  obtain ⟨u1, u2, n1, n2, g1, g2, _, _, _⟩ := hl 0 s ⟨H, I, Same.refl _⟩
  refine wpAny_richCompare_same_room (op := .NotEq) ⟨_, g1, rfl⟩ ⟨_, g2, rfl⟩ PySem.F.slot_list_ne (GQ.call_here PySem.F.slot_list_ne ⟨_, g1, rfl⟩ PySem.F.entry_list_ne (PySem.F.args_list_ne_2 _ _) ?_) (by have := hr.units; omega)
  exact ne_listL (R := wants (fun v s' => v ≠ .notImplemented ∧ EP X pins σ Q v s') X.xe) a b xs.length _ hl (fun z q2 => ⟨(fun x => nomatch x), by
    obtain ⟨H1, I1, s1⟩ := q2
    exact ⟨.bl false, H1, I1, rfl, q H1 s1⟩⟩) ⟨H, I, Same.refl _⟩

def Rw.gv : Rw → V
  | .br _ g => .int (g : Nat)
  | .go g => .int (g : Nat)
  | _ => .non
/-! rows shown -/
theorem low16 {s : String} (h : (Str.ofString s).cps.toList.all (fun c => decide (c < 128)) = true) : ∀ c ∈ (Str.ofString s).cps.toList, c < 16 ^ 8 := fun c hc => by
  have := of_decide_eq_true (List.all_eq_true.mp h c hc)
  exact Nat.lt_trans this (by decide)
theorem rw_sh {r : Rw} {m n D : Nat} (o : r.ok m n) (hm : m ≤ 100) (hn : n ≤ 100) : ShL r.ds D 20 := by
  have i1 : ∀ {j : Nat}, j ≤ 100 → ShD (.int (j : Int)) D 0 := fun h => ShD.int (Nat.lt_of_lt_of_le (by rw [Int.natAbs_natCast]; exact Nat.lt_succ_of_le h) (show 101 ≤ 10 ^ 500 from Nat.le_trans (show 101 ≤ 10 ^ 3 by decide) (Nat.pow_le_pow_right (by decide) (by decide))))
  have s1 := ShD.str (D := D) (low16 (s := "raise") (by decide +kernel))
  have s2 := ShD.str (D := D) (low16 (s := "lower") (by decide +kernel))
  have s3 := ShD.str (D := D) (low16 (s := "if") (by decide +kernel))
  have s4 := ShD.str (D := D) (low16 (s := "go") (by decide +kernel))
  have s5 := ShD.str (D := D) (low16 (s := "stop") (by decide +kernel))
  cases r with
  | up j => exact (ShL.cons s1 (ShL.cons (i1 (by have : j < m := o; omega)) ShL.nil)).up (Nat.le_refl _) (by show 5 + 1 + (0 + 1 + 0) ≤ 20; decide)
  | dn j => exact (ShL.cons s2 (ShL.cons (i1 (by have : j < m := o; omega)) ShL.nil)).up (Nat.le_refl _) (by show 5 + 1 + (0 + 1 + 0) ≤ 20; decide)
  | br j g => exact (ShL.cons s3 (ShL.cons (i1 (by have := o.1; omega)) (ShL.cons (i1 (by have := o.2; omega)) ShL.nil))).up (Nat.le_refl _) (by show 2 + 1 + (0 + 1 + (0 + 1 + 0)) ≤ 20; decide)
  | go g => exact (ShL.cons s4 (ShL.cons (i1 (by have : g < n := o; omega)) ShL.nil)).up (Nat.le_refl _) (by show 2 + 1 + (0 + 1 + 0) ≤ 20; decide)
  | st => exact (ShL.cons s5 ShL.nil).up (Nat.le_refl _) (by show 4 + 1 + 0 ≤ 20; decide)
theorem rws_sh {rs : List Rw} {m n D : Nat} (o : RwsOk m n rs) (hm : m ≤ 100) (hn : n ≤ 100) (hl : rs.length ≤ 100) : ShL (rsD rs) (D + 1) 2100 := by
  have e := ShL.all (ds := rsD rs) (D := D + 1) (N := 20) fun d hd => by
    obtain ⟨r, hr, rfl⟩ := List.mem_map.mp hd
    exact (rw_sh (D := D) (o r hr) hm hn).tup
  refine e.up (Nat.le_refl _) ?_
  have : (rsD rs).length = rs.length := List.length_map _
  rw [this]
  omega
theorem w_repRowsT {K : PySem.W.Frag} {H : Hp} {Q : VK} {a : Addr} {us : List V} {rs : List Rw} {m n : Nat} (h : H a = some (.tup us)) (hr : RwsAt H us rs) (o : RwsOk m n rs) (hm : m ≤ 100) (hn : n ≤ 100) (hl : rs.length ≤ 100) (k : Q (.str (PyData.shown (.tuple (rsD rs)))) H) : gRep K [.ref a] H Q :=
  w_repD (.tup (st_of h) hr.dp) (rws_sh (D := 0) o hm hn hl).tup (by decide) (by decide) k
theorem w_repNats {K : PySem.W.Frag} {H : Hp} {Q : VK} {a : Addr} {l : List Nat} (h : SqL K H a (nV l)) (b : ∀ n ∈ l, n ≤ 1000000) (hl : l.length ≤ 1000) (k : Q (.str (PyData.shown (.list (nD l)))) H) : gRep K [.ref a] H Q :=
  w_repD (.lst h (TpL.dp _ _ (tpl_nat (H := H) l))) (ShL.nats (D := 0) fun n hn => Nat.lt_of_le_of_lt (b n hn) (Nat.lt_of_lt_of_le (show 1000000 < 10 ^ 7 by decide) (Nat.pow_le_pow_right (by decide) (by decide)))).lst (by decide) (by omega) k

/-! a program's sayings shown: words and numbers are plain -/
def Tm.oq : Tm → Prop
  | .num n => n < 1000000000000
  | .name _ => True
  | .op w a b => (PyData.strOk w = true ∧ w.length ≤ 20) ∧ a.oq ∧ b.oq
def SayOk2 (s : SyW) : Prop := s.2.1.oq ∧ s.2.2.oq ∧ s.2.1.wt ≤ 100 ∧ s.2.2.wt ≤ 100
theorem oqPl {a b : Tm} (h : a.oq) (k : b.oq) : (Tm.op "plus" a b).oq := ⟨⟨by decide +kernel, by decide⟩, h, k⟩
theorem oqMl {a b : Tm} (h : a.oq) (k : b.oq) : (Tm.op "times" a b).oq := ⟨⟨by decide +kernel, by decide⟩, h, k⟩
theorem oqPw {a b : Tm} (h : a.oq) (k : b.oq) : (Tm.op "power" a b).oq := ⟨⟨by decide +kernel, by decide⟩, h, k⟩
theorem oqw_fold : ∀ (ts : List Tm) (a : Tm), a.oq → (∀ t ∈ ts, t.oq ∧ t.wt = 1) → (ts.foldl (fun a b => Tm.op "plus" a b) a).oq ∧ (ts.foldl (fun a b => Tm.op "plus" a b) a).wt = a.wt + 3 * ts.length
  | [], a, h, _ => ⟨h, by simp⟩
  | t :: ts, a, h, k => by
    obtain ⟨k1, k2⟩ := k t List.mem_cons_self
    obtain ⟨h1, h2⟩ := oqw_fold ts (.op "plus" a t) (oqPl h k1) fun x hx => k x (List.mem_cons_of_mem _ hx)
    refine ⟨h1, ?_⟩
    rw [List.foldl_cons, h2]
    show a.wt + t.wt + 2 + _ = _
    rw [List.length_cons]
    omega
theorem oqw_sum : ∀ (ts : List Tm), (∀ t ∈ ts, t.oq ∧ t.wt = 1) → (sumT ts).oq ∧ (sumT ts).wt ≤ 3 * ts.length + 1
  | [], _ => ⟨show (0 : Nat) < 1000000000000 by decide, by show 1 ≤ _; omega⟩
  | t :: ts, h => by
    obtain ⟨k1, k2⟩ := h t List.mem_cons_self
    obtain ⟨h1, h2⟩ := oqw_fold ts t k1 fun x hx => h x (List.mem_cons_of_mem _ hx)
    refine ⟨h1, ?_⟩
    show (ts.foldl _ t).wt ≤ _
    rw [h2, List.length_cons]
    omega
theorem oqw_ls (ks : List Nat) : (sumT (lsT ks)).oq ∧ (sumT (lsT ks)).wt ≤ 3 * ks.length + 1 := by
  have h := oqw_sum (lsT ks) fun t ht => by
    obtain ⟨k, _, rfl⟩ := List.mem_map.mp ht
    exact ⟨trivial, rfl⟩
  rw [lsT_len] at h
  exact h
theorem oqw_xs (m : Nat) : (sumT ((List.range m).map fun j => Tm.name (nmS "x" j))).oq ∧ (sumT ((List.range m).map fun j => Tm.name (nmS "x" j))).wt ≤ 3 * m + 1 := by
  have h := oqw_sum ((List.range m).map fun j => Tm.name (nmS "x" j)) fun t ht => by
    obtain ⟨k, _, rfl⟩ := List.mem_map.mp ht
    exact ⟨trivial, rfl⟩
  rw [List.length_map, List.length_range] at h
  exact h
local macro_rules | `(tactic| tm_at "roq") => `(tactic| first | exact trivial | (show (_ : Nat) < 1000000000000; omega) | fail "no")
theorem sys_ok2 {m : Nat} {rs : List Rw} (h : Prg m rs) : ∀ s ∈ sysOf m rs, SayOk2 s := by
  intro s hs
  have h14 := h.len
  have h5 := h.b5
  have x1 := oqw_xs m
  have top : topT.oq := oqPw (by tm_at "roq") (oqMl (by tm_at "roq") (oqPl (by tm_at "roq") (by tm_at "roq")))
  have tw : topT.wt = 10 := rfl
  have base : ∀ {a b : Tm}, a.oq → b.oq → a.wt ≤ 100 → b.wt ≤ 100 → ∀ {w : Str}, SayOk2 (w, a, b) := fun h1 h2 h3 h4 => ⟨h1, h2, h3, h4⟩
  unfold sysOf at hs
  rcases List.mem_append.mp hs with hs | hs
  · rcases List.mem_append.mp hs with hs | hs
    · rcases List.mem_append.mp hs with hs | hs
      · unfold baseS at hs
        simp only [List.mem_cons, List.not_mem_nil, or_false] at hs
        rcases hs with rfl | rfl | rfl | rfl | rfl | rfl
        · refine base ?_ ?_ ?_ ?_
          · exact (by tm_at "roq")
          · exact (oqPl (oqPl x1.1 (by tm_at "roq")) (by tm_at "roq"))
          · show _ ≤ 100; (first | decide | (simp only [Tm.wt]; omega))
          · exact (by simp only [Tm.wt]; omega)
        · refine base ?_ ?_ ?_ ?_
          · exact (by tm_at "roq")
          · exact (oqMl (by tm_at "roq") (by tm_at "roq"))
          · show _ ≤ 100; (first | decide | (simp only [Tm.wt]; omega))
          · show _ ≤ 100; (first | decide | (simp only [Tm.wt]; omega))
        · refine base ?_ ?_ ?_ ?_
          · exact (by tm_at "roq")
          · exact (oqPw (by tm_at "roq") (by tm_at "roq"))
          · show _ ≤ 100; (first | decide | (simp only [Tm.wt]; omega))
          · show _ ≤ 100; (first | decide | (simp only [Tm.wt]; omega))
        · refine base ?_ ?_ ?_ ?_
          · exact (by tm_at "roq")
          · exact (oqPl (by tm_at "roq") (by tm_at "roq"))
          · show _ ≤ 100; (first | decide | (simp only [Tm.wt]; omega))
          · exact (by simp only [Tm.wt]; omega)
        · refine base ?_ ?_ ?_ ?_
          · exact (oqPl (oqMl (by tm_at "roq") (by tm_at "roq")) (by tm_at "roq"))
          · exact (oqPl top (by tm_at "roq"))
          · show _ ≤ 100; (first | decide | (simp only [Tm.wt]; omega))
          · show _ ≤ 100; (first | decide | (simp only [Tm.wt]; omega))
        · refine base ?_ ?_ ?_ ?_
          · exact (oqPl (by tm_at "roq") (by tm_at "roq"))
          · exact (oqMl (by tm_at "roq") (by tm_at "roq"))
          · show _ ≤ 100; (first | decide | (simp only [Tm.wt]; omega))
          · show _ ≤ 100; (first | decide | (simp only [Tm.wt]; omega))
      · unfold timeS at hs
        rcases List.mem_append.mp hs with hs | hs
        · rcases List.mem_append.mp hs with hs | hs
          · rcases List.mem_append.mp hs with hs | hs
            · rcases List.mem_append.mp hs with hs | hs
              · rcases List.mem_append.mp hs with hs | hs
                · obtain ⟨j, hj, rfl⟩ := List.mem_map.mp hs
                  refine base ?_ ?_ ?_ ?_
                  · exact (by tm_at "roq")
                  · exact (by tm_at "roq")
                  · show _ ≤ 100; (first | decide | (simp only [Tm.wt]; omega))
                  · show _ ≤ 100; (first | decide | (simp only [Tm.wt]; omega))
                · obtain ⟨j, hj, rfl⟩ := List.mem_map.mp hs
                  refine base ?_ ?_ ?_ ?_
                  · exact (by tm_at "roq")
                  · exact (by tm_at "roq")
                  · show _ ≤ 100; (first | decide | (simp only [Tm.wt]; omega))
                  · show _ ≤ 100; (first | decide | (simp only [Tm.wt]; omega))
              · rw [List.mem_singleton.mp hs]
                have := oqw_ls (List.range rs.length)
                rw [List.length_range] at this
                refine base ?_ ?_ ?_ ?_
                · exact this.1
                · exact (by tm_at "roq")
                · exact (by omega)
                · show _ ≤ 100; (first | decide | (simp only [Tm.wt]; omega))
            · rw [List.mem_singleton.mp hs]
              refine base ?_ ?_ ?_ ?_
              · exact (by tm_at "roq")
              · exact (by tm_at "roq")
              · show _ ≤ 100; (first | decide | (simp only [Tm.wt]; omega))
              · show _ ≤ 100; (first | decide | (simp only [Tm.wt]; omega))
          · rw [List.mem_singleton.mp hs]
            have := oqw_ls (stpK rs rs.length)
            have h2 := stpK_len rs rs.length
            refine base ?_ ?_ ?_ ?_
            · exact this.1
            · exact (oqPw (by tm_at "roq") (oqMl (by tm_at "roq") (by tm_at "roq")))
            · exact (by omega)
            · show _ ≤ 100; (first | decide | (simp only [Tm.wt]; omega))
        · obtain ⟨j, hj, rfl⟩ := List.mem_map.mp hs
          refine base ?_ ?_ ?_ ?_
          · exact (oqPl (by tm_at "roq") (oqMl (by tm_at "roq") (by tm_at "roq")))
          · exact (oqMl (by tm_at "roq") (by tm_at "roq"))
          · exact (by simp only [Tm.wt]; omega)
          · show _ ≤ 100; (first | decide | (simp only [Tm.wt]; omega))
    · unfold rowsS at hs
      obtain ⟨l, hl, hsl⟩ := List.mem_flatten.mp hs
      obtain ⟨k, hk, rfl⟩ := List.mem_map.mp hl
      unfold rowS at hsl
      split at hsl
      · cases hsl
      · rw [List.mem_singleton.mp hsl]
        refine base ?_ ?_ ?_ ?_
        · exact (oqMl (by tm_at "roq") (by tm_at "roq"))
        · exact (by tm_at "roq")
        · exact (by simp only [Tm.wt]; omega)
        · exact (by simp only [Tm.wt]; omega)
      · split at hsl
        · rw [List.mem_singleton.mp hsl]
          refine base ?_ ?_ ?_ ?_
          · exact (oqMl (by tm_at "roq") (by tm_at "roq"))
          · exact (by tm_at "roq")
          · exact (by simp only [Tm.wt]; omega)
          · exact (by simp only [Tm.wt]; omega)
        · rcases List.mem_cons.mp hsl with rfl | hsl
          · refine base ?_ ?_ ?_ ?_
            · exact (oqMl (by tm_at "roq") (by tm_at "roq"))
            · exact (oqPl (by tm_at "roq") (by tm_at "roq"))
            · exact (by simp only [Tm.wt]; omega)
            · exact (by simp only [Tm.wt]; omega)
          · rw [List.mem_singleton.mp hsl]
            refine base ?_ ?_ ?_ ?_
            · exact (oqMl (by tm_at "roq") (by tm_at "roq"))
            · exact (oqPl (by tm_at "roq") (by tm_at "roq"))
            · exact (by simp only [Tm.wt]; omega)
            · exact (by simp only [Tm.wt]; omega)
      · rw [List.mem_singleton.mp hsl]
        refine base ?_ ?_ ?_ ?_
        · exact (oqMl (by tm_at "roq") (by tm_at "roq"))
        · exact (by tm_at "roq")
        · exact (by simp only [Tm.wt]; omega)
        · exact (by simp only [Tm.wt]; omega)
      · cases hsl
  · obtain ⟨j, hj, rfl⟩ := List.mem_map.mp hs
    have l1 := oqw_ls (plc rs (.up j) rs.length)
    have l2 := oqw_ls (plc rs (.dn j) rs.length)
    have e1 := plc_len rs (.up j) rs.length
    have e2 := plc_len rs (.dn j) rs.length
    refine base ?_ ?_ ?_ ?_
    · exact (oqPl (oqMl (by tm_at "roq") (oqPl (by tm_at "roq") l1.1)) (by tm_at "roq"))
    · exact (oqPl (oqPl (by tm_at "roq") (oqMl (by tm_at "roq") l2.1)) (oqMl top (by tm_at "roq")))
    · exact (by simp only [Tm.wt]; omega)
    · exact (by simp only [Tm.wt]; omega)
theorem dep_wt : ∀ t : Tm, t.dep ≤ t.wt
  | .num _ => by show 0 ≤ _; omega
  | .name _ => by show 0 ≤ _; omega
  | .op w a b => by
    have h1 := dep_wt a
    have h2 := dep_wt b
    show max a.dep b.dep + 1 ≤ a.wt + b.wt + 2
    omega
theorem tmX_of : ∀ {t : Tm}, t.oq → (∀ z ∈ t.nms, PyData.strOk z = true ∧ z.length ≤ 20) → TmX t
  | .num _, h, _ => by
    have h : _ < 1000000000000 := h
    have e : (10 : Nat) ^ 12 = 1000000000000 := by decide
    show _ < 10 ^ 12
    omega
  | .name z, _, k => k z (List.mem_singleton.mpr rfl)
  | .op w a b, ⟨h1, h2, h3⟩, k => ⟨h1, tmX_of h2 fun z hz => k z (List.mem_append_left _ hz), tmX_of h3 fun z hz => k z (List.mem_append_right _ hz)⟩
theorem names_ok20 {m : Nat} {rs : List Rw} (h : Prg m rs) : ∀ z ∈ namesL m rs.length (asked m rs), PyData.strOk z = true ∧ z.length ≤ 20 := by
  intro z hz
  have hz := (names_sub h.b5 h.len (asked_sub m rs)).mem hz
  have ok : (namesL 5 14 [0, 1, 2, 3, 4]).all (fun z => PyData.strOk z && decide (z.length ≤ 20)) = true := by decide +kernel
  have := List.all_eq_true.mp ok z hz
  rw [Bool.and_eq_true, decide_eq_true_eq] at this
  exact this
theorem sys_word (m : Nat) (rs : List Rw) : ∀ s ∈ sysOf m rs, s.1 = Str.ofString "same" ∨ s.1 = Str.ofString "under" := by
  intro s hs
  unfold sysOf at hs
  simp only [List.mem_append] at hs
  rcases hs with ((hs | hs) | hs) | hs
  · unfold baseS at hs
    simp only [List.mem_cons, List.not_mem_nil, or_false] at hs
    rcases hs with rfl | rfl | rfl | rfl | rfl | rfl <;> exact .inl rfl
  · unfold timeS at hs
    simp only [List.mem_append] at hs
    rcases hs with ((((hs | hs) | hs) | hs) | hs) | hs
    · obtain ⟨j, hj, rfl⟩ := List.mem_map.mp hs
      exact .inr rfl
    · obtain ⟨j, hj, rfl⟩ := List.mem_map.mp hs
      exact .inr rfl
    · rw [List.mem_singleton.mp hs]
      exact .inl rfl
    · rw [List.mem_singleton.mp hs]
      exact .inr rfl
    · rw [List.mem_singleton.mp hs]
      exact .inl rfl
    · obtain ⟨j, hj, rfl⟩ := List.mem_map.mp hs
      exact .inl rfl
  · unfold rowsS at hs
    obtain ⟨l, hl, hsl⟩ := List.mem_flatten.mp hs
    obtain ⟨k, hk, rfl⟩ := List.mem_map.mp hl
    unfold rowS at hsl
    split at hsl
    · cases hsl
    · rw [List.mem_singleton.mp hsl]
      exact .inr rfl
    · split at hsl
      · rw [List.mem_singleton.mp hsl]
        exact .inr rfl
      · rcases List.mem_cons.mp hsl with rfl | hsl
        · exact .inr rfl
        · rw [List.mem_singleton.mp hsl]
          exact .inr rfl
    · rw [List.mem_singleton.mp hsl]
      exact .inr rfl
    · cases hsl
  · obtain ⟨j, hj, rfl⟩ := List.mem_map.mp hs
    exact .inl rfl
theorem sys_X {m : Nat} {rs : List Rw} (h : Prg m rs) : ∀ t ∈ (sysOf m rs).map opS, TmX t ∧ t.dep ≤ 2900 ∧ t.wt ≤ 202 := by
  intro t ht
  obtain ⟨s, hs, rfl⟩ := List.mem_map.mp ht
  obtain ⟨h1, h2, h3, h4⟩ := sys_ok2 h s hs
  have nm : ∀ z, z ∈ s.2.1.nms ∨ z ∈ s.2.2.nms → PyData.strOk z = true ∧ z.length ≤ 20 := fun z hz => names_ok20 h z (nms_in h (mem_nmSys.mpr ⟨s, hs, hz⟩))
  have d1 := dep_wt s.2.1
  have d2 := dep_wt s.2.2
  refine ⟨⟨?_, tmX_of h1 fun z hz => nm z (.inl hz), tmX_of h2 fun z hz => nm z (.inr hz)⟩, ?_, ?_⟩
  · rcases sys_word m rs s hs with e | e
    · rw [e]; exact ⟨by decide +kernel, by decide⟩
    · rw [e]; exact ⟨by decide +kernel, by decide⟩
  · show max s.2.1.dep s.2.2.dep + 1 ≤ 2900
    omega
  · show s.2.1.wt + s.2.2.wt + 2 ≤ 202
    omega
theorem sys_len66 {m : Nat} {rs : List Rw} (h : Prg m rs) : (sysOf m rs).length ≤ 66 := by
  unfold sysOf
  rw [List.length_append, List.length_append, List.length_append, baseS_len, timeS_len, List.length_map, List.length_range]
  have := rowsS_len rs rs.length
  have := asked_le m rs
  have := h.b5
  have := h.len
  omega
theorem sys_wt {m : Nat} {rs : List Rw} (h : Prg m rs) : sumWt ((sysOf m rs).map opS) ≤ 20000 := by
  have e := sumWt_le (w := 202) (l := (sysOf m rs).map opS) fun t ht => (sys_X h t ht).2.2
  rw [List.length_map] at e
  have l1 : (sysOf m rs).length ≤ 66 := by
    unfold sysOf
    rw [List.length_append, List.length_append, List.length_append, baseS_len, timeS_len, List.length_map, List.length_range]
    have := rowsS_len rs rs.length
    have := asked_le m rs
    have := h.b5
    have := h.len
    omega
  have := Nat.mul_le_mul_left 202 l1
  omega

/-- a drawn program: boxes and rows -/
def PgT (H : Hp) (D : Addr) (x : V) : Prop := ∃ q p m us rs, x = .ref q ∧ H q = some (.tup [.int ((m : Nat) : Int), .ref p]) ∧ H p = some (.lst us) ∧ RwsAt H us rs ∧ Prg m rs ∧ p ≠ D
theorem PgT.sm {H H' : Hp} {D : Addr} {x : V} (h : PgT H D x) (e : Sm H H') : PgT H' D x := by
  obtain ⟨q, p, m, us, rs, rfl, a, b, c, d, f⟩ := h
  exact ⟨q, p, m, us, rs, rfl, e _ _ a, e _ _ b, c.tk (Tk.sm e), d, f⟩
theorem PgT.kp {H H' : Hp} {D : Addr} {x : V} {ys : List V} (h : PgT H D x) (hD : H D = some (.lst ys)) (e : Kp D H H') : PgT H' D x := by
  obtain ⟨q, p, m, us, rs, rfl, a, b, c, d, f⟩ := h
  exact ⟨q, p, m, us, rs, rfl, Tk.kp hD e _ _ a, e _ _ f b, c.tk (Tk.kp hD e), d, f⟩
def sp_f_law_take (K : PySem.W.Frag) : Sp := fun vs H Q E => ∃ (b : Addr) (w : Int), vs = [.ref b, .int w] ∧ BoxAt H b ∧ Wd w ∧ ∀ d H', 0 ≤ d → d < w → Kp b H H' → BoxAt H' b → Q (.int d) H'
theorem call_take {K : PySem.W.Frag} {H : Hp} {Q : VK} {E : XK} {b : Addr} {w : Int} (hb : BoxAt H b) (hw : Wd w) (k : ∀ d H', 0 ≤ d → d < w → Kp b H H' → BoxAt H' b → Q (.int d) H') : sp_f_law_take K [.ref b, .int w] H Q E := ⟨b, w, rfl, hb, hw, k⟩
local macro_rules | `(tactic| tm_at "rwd") => `(tactic| first | assumption | (apply wd_of <;> omega) | exact ⟨by decide, by decide +kernel⟩ | ((refine' wd_two ?wa ?wb); (case wa => with_reducible assumption); (case wb => omega)) | solve_by_elim | fail "no")
local macro_rules | `(tactic| tm_at "rs") => `(tactic| ((with_reducible refine call_take ?h ?w (fun _ _ _ _ _ _ => ?_)); (case h => tm_at "rbx"); (case w => tm_at "rwd")))
def sp_f_law_piece (K : PySem.W.Frag) : Sp := fun vs H Q E => ∃ (b : Addr) (m t : Nat), vs = [.ref b, .int (m : Int), .int (t : Int)] ∧ BoxAt H b ∧ 1 ≤ m ∧ m ≤ 5 ∧ t ≤ 100 ∧ ∀ (p : Addr) (vs : List V) (rs : List Rw) (H' : Hp), H p = none → H' p = some (.lst vs) → RwsAt H' vs rs → 1 ≤ rs.length → rs.length ≤ 6 → RwsOk m (t + rs.length + 1) rs → Kp b H H' → BoxAt H' b → Q (.ref p) H'
theorem call_piece {K : PySem.W.Frag} {H : Hp} {Q : VK} {E : XK} {b : Addr} {m t : Nat} (hB : BoxAt H b) (m1 : 1 ≤ m) (m5 : m ≤ 5) (t1 : t ≤ 100) (k : ∀ (p : Addr) (vs : List V) (rs : List Rw) (H' : Hp), H p = none → H' p = some (.lst vs) → RwsAt H' vs rs → 1 ≤ rs.length → rs.length ≤ 6 → RwsOk m (t + rs.length + 1) rs → Kp b H H' → BoxAt H' b → Q (.ref p) H') : sp_f_law_piece K [.ref b, .int (m : Int), .int (t : Int)] H Q E := ⟨b, m, t, rfl, hB, m1, m5, t1, k⟩
def sp_f_law_ending_rows (K : PySem.W.Frag) : Sp := fun vs H Q E => ∃ (b : Addr) (m : Nat), vs = [.ref b, .int (m : Int)] ∧ BoxAt H b ∧ 1 ≤ m ∧ m ≤ 5 ∧ ∀ (p : Addr) (vs : List V) (rs : List Rw) (H' : Hp), H p = none → H' p = some (.lst vs) → RwsAt H' vs rs → Prg m rs → Kp b H H' → BoxAt H' b → Q (.ref p) H'
theorem call_endingRows {K : PySem.W.Frag} {H : Hp} {Q : VK} {E : XK} {b : Addr} {m : Nat} (hB : BoxAt H b) (m1 : 1 ≤ m) (m5 : m ≤ 5) (k : ∀ (p : Addr) (vs : List V) (rs : List Rw) (H' : Hp), H p = none → H' p = some (.lst vs) → RwsAt H' vs rs → Prg m rs → Kp b H H' → BoxAt H' b → Q (.ref p) H') : sp_f_law_ending_rows K [.ref b, .int (m : Int)] H Q E := ⟨b, m, rfl, hB, m1, m5, k⟩
def sp_f_law_row (K : PySem.W.Frag) : Sp := fun vs H Q E => ∃ (b : Addr) (m n : Nat), vs = [.ref b, .int (m : Int), .int (n : Int)] ∧ BoxAt H b ∧ 1 ≤ m ∧ m ≤ 5 ∧ 1 ≤ n ∧ n ≤ 14 ∧ ∀ (p : Addr) (r : Rw) (H' : Hp), H p = none → H' p = some (.tup r.vs) → r.ok m n → Kp b H H' → BoxAt H' b → Q (.ref p) H'
theorem call_row {K : PySem.W.Frag} {H : Hp} {Q : VK} {E : XK} {b : Addr} {m n : Nat} (hB : BoxAt H b) (m1 : 1 ≤ m) (m5 : m ≤ 5) (n1 : 1 ≤ n) (n14 : n ≤ 14) (k : ∀ (p : Addr) (r : Rw) (H' : Hp), H p = none → H' p = some (.tup r.vs) → r.ok m n → Kp b H H' → BoxAt H' b → Q (.ref p) H') : sp_f_law_row K [.ref b, .int (m : Int), .int (n : Int)] H Q E := ⟨b, m, n, rfl, hB, m1, m5, n1, n14, k⟩
def sp_f_law_any_rows (K : PySem.W.Frag) : Sp := fun vs H Q E => ∃ (b : Addr) (m : Nat), vs = [.ref b, .int (m : Int)] ∧ BoxAt H b ∧ 1 ≤ m ∧ m ≤ 5 ∧ ∀ (p : Addr) (vs : List V) (rs : List Rw) (H' : Hp), H p = none → H' p = some (.lst vs) → RwsAt H' vs rs → Prg m rs → Kp b H H' → BoxAt H' b → Q (.ref p) H'
theorem call_anyRows {K : PySem.W.Frag} {H : Hp} {Q : VK} {E : XK} {b : Addr} {m : Nat} (hB : BoxAt H b) (m1 : 1 ≤ m) (m5 : m ≤ 5) (k : ∀ (p : Addr) (vs : List V) (rs : List Rw) (H' : Hp), H p = none → H' p = some (.lst vs) → RwsAt H' vs rs → Prg m rs → Kp b H H' → BoxAt H' b → Q (.ref p) H') : sp_f_law_any_rows K [.ref b, .int (m : Int)] H Q E := ⟨b, m, rfl, hB, m1, m5, k⟩
def sp_f_law_some_program (K : PySem.W.Frag) : Sp := fun vs H Q E => ∃ (b : Addr), vs = [.ref b] ∧ BoxAt H b ∧ ∀ (q p : Addr) (m : Nat) (vs : List V) (rs : List Rw) (H' : Hp), H p = none → H' q = some (.tup [.int (m : Nat), .ref p]) → H' p = some (.lst vs) → RwsAt H' vs rs → Prg m rs → Kp b H H' → BoxAt H' b → Q (.ref q) H'
theorem call_someProgram {K : PySem.W.Frag} {H : Hp} {Q : VK} {E : XK} {b : Addr} (hB : BoxAt H b) (k : ∀ (q p : Addr) (m : Nat) (vs : List V) (rs : List Rw) (H' : Hp), H p = none → H' q = some (.tup [.int (m : Nat), .ref p]) → H' p = some (.lst vs) → RwsAt H' vs rs → Prg m rs → Kp b H H' → BoxAt H' b → Q (.ref q) H') : sp_f_law_some_program K [.ref b] H Q E := ⟨b, rfl, hB, k⟩
local macro_rules | `(tactic| tm_at "rs") => `(tactic| ((with_reducible refine call_someProgram ?h (fun _ _ _ _ _ _ _ _ _ _ _ _ _ => ?_)); (case h => tm_at "rbx")))
def sp_f_law_box (K : PySem.W.Frag) : Sp := fun vs H Q E => ∃ (a : Addr) (ns : List Int) (i : Int), vs = [.ref a, .int i] ∧ SqL K H a (ns.map V.int) ∧ 0 ≤ i ∧ i ≤ 100000 ∧ ∀ b H', H b = none → Sm H H' → BoxAt H' b → Q (.ref b) H'
theorem call_box {K : PySem.W.Frag} {H : Hp} {Q : VK} {E : XK} {a : Addr} {ns : List Int} {i : Int} (hS : SqL K H a (ns.map V.int)) (h0 : 0 ≤ i) (h1 : i ≤ 100000) (k : ∀ b H', H b = none → Sm H H' → BoxAt H' b → Q (.ref b) H') : sp_f_law_box K [.ref a, .int i] H Q E := ⟨a, ns, i, rfl, hS, h0, h1, k⟩
local macro_rules | `(tactic| tm_at "rs") => `(tactic| ((with_reducible refine' call_box ?h ?i ?j (fun _ _ _ _ _ => ?k)); (case h => tm_at "rsq"); (case i => omega); (case j => omega)))
def sp_f_is_whole (K : PySem.W.Frag) : Sp := fun vs H Q E => ∃ (i : Int), vs = [.int i] ∧ ∀ H', Sm H H' → Q (.bl true) H'
theorem call_isWhole {K : PySem.W.Frag} {H : Hp} {Q : VK} {E : XK} {i : Int} (k : ∀ H', Sm H H' → Q (.bl true) H') : sp_f_is_whole K [.int i] H Q E := ⟨i, rfl, k⟩
local macro_rules | `(tactic| tm_at "rs") => `(tactic| (with_reducible refine call_isWhole (fun _ _ => ?_)))
def sp_f_is_formed (K : PySem.W.Frag) : Sp := fun vs H Q E => ∃ (p : Addr) (r : Rw), vs = [.ref p] ∧ H p = some (.tup r.vs) ∧ ∀ H', Sm H H' → Q (.bl true) H'
theorem call_isFormed {K : PySem.W.Frag} {H : Hp} {Q : VK} {E : XK} {p : Addr} {r : Rw} (hp : H p = some (.tup r.vs)) (k : ∀ H', Sm H H' → Q (.bl true) H') : sp_f_is_formed K [.ref p] H Q E := ⟨p, r, rfl, hp, k⟩
def sp_f_check_row (K : PySem.W.Frag) : Sp := fun vs H Q E => ∃ (p : Addr) (r : Rw) (m n t : Nat), vs = [.ref p, .int (m : Nat), .int (n : Nat), .int (t : Nat)] ∧ H p = some (.tup r.vs) ∧ r.ok m n ∧ ∀ H', Sm H H' → Q .non H'
theorem call_checkRow {K : PySem.W.Frag} {H : Hp} {Q : VK} {E : XK} {p : Addr} {r : Rw} {m n t : Nat} (hp : H p = some (.tup r.vs)) (ho : r.ok m n) (k : ∀ H', Sm H H' → Q .non H') : sp_f_check_row K [.ref p, .int (m : Nat), .int (n : Nat), .int (t : Nat)] H Q E := ⟨p, r, m, n, t, rfl, hp, ho, k⟩
def sp_f_check (K : PySem.W.Frag) : Sp := fun vs H Q E => ∃ (m : Nat) (a : Addr) (us : List V) (rs : List Rw), vs = [.int (m : Nat), .ref a] ∧ (H a = some (.lst us) ∨ H a = some (.tup us)) ∧ RwsAt H us rs ∧ Prg m rs ∧ ∀ H', Sm H H' → Q .non H'
theorem call_check {K : PySem.W.Frag} {H : Hp} {Q : VK} {E : XK} {m : Nat} {a : Addr} {us : List V} {rs : List Rw} (ha : H a = some (.lst us)) (hr : RwsAt H us rs) (hp : Prg m rs) (k : ∀ H', Sm H H' → Q .non H') : sp_f_check K [.int (m : Nat), .ref a] H Q E := ⟨m, a, us, rs, rfl, .inl ha, hr, hp, k⟩
theorem call_checkT {K : PySem.W.Frag} {H : Hp} {Q : VK} {E : XK} {m : Nat} {a : Addr} {us : List V} {rs : List Rw} (ha : H a = some (.tup us)) (hr : RwsAt H us rs) (hp : Prg m rs) (k : ∀ H', Sm H H' → Q .non H') : sp_f_check K [.int (m : Nat), .ref a] H Q E := ⟨m, a, us, rs, rfl, .inr ha, hr, hp, k⟩
def sp_f_Program__init (K : PySem.W.Frag) : Sp := fun vs H Q E => ∃ (p C dx : Addr) (m : Nat) (a : Addr) (us : List V) (rs : List Rw), vs = [.ref p, .int (m : Nat), .ref a] ∧ H p = some (.ins C dx []) ∧ PrC K C ∧ (H a = some (.lst us) ∨ H a = some (.tup us)) ∧ RwsAt H us rs ∧ Prg m rs ∧ ∀ H' t, Kp p H H' → H' p = some (.ins C dx [("boxes", .int (m : Nat)), ("rows", .ref t)]) → H' t = some (.tup us) → Q .non H'
theorem mk_prog {K : PySem.W.Frag} {H : Hp} {Q : VK} {E : XK} {C : Addr} {m : Nat} {a : Addr} {us : List V} {rs : List Rw} (hC : PrC K C) (ha : H a = some (.lst us)) (hr : RwsAt H us rs) (hg : Prg m rs) (k : ∀ p H', H p = none → Sm H H' → PrgAt K H' (.ref p) m rs → Q (.ref p) H') : MkE C (sp_f_Program__init K) Q E [.int (m : Nat), .ref a] H := fun x dx hx hd ne =>
  have s0 : Sm H (upd (upd H dx (.own x)) x (.ins C dx [])) := fun b o h => by rw [upd_ne (ne_of_none h hx), upd_ne (ne_of_none h hd)]; exact h
  ⟨x, C, dx, m, a, us, rs, rfl, upd_same, hC, .inl (s0 _ _ ha), hr.tk (Tk.sm s0), hg, fun H' t kp g gt =>
    have s1 : Sm H H' := fun b o h => kp b o (ne_of_none h hx) (s0 _ _ h)
    ⟨rfl, k x H' hx s1 ⟨x, C, dx, t, us, rfl, hC, g, gt, hr.tk (Tk.sm s1)⟩⟩⟩
theorem mk_progT {K : PySem.W.Frag} {H : Hp} {Q : VK} {E : XK} {C : Addr} {m : Nat} {a : Addr} {us : List V} {rs : List Rw} (hC : PrC K C) (ha : H a = some (.tup us)) (hr : RwsAt H us rs) (hg : Prg m rs) (k : ∀ p H', H p = none → Sm H H' → PrgAt K H' (.ref p) m rs → Q (.ref p) H') : MkE C (sp_f_Program__init K) Q E [.int (m : Nat), .ref a] H := fun x dx hx hd ne =>
  have s0 : Sm H (upd (upd H dx (.own x)) x (.ins C dx [])) := fun b o h => by rw [upd_ne (ne_of_none h hx), upd_ne (ne_of_none h hd)]; exact h
  ⟨x, C, dx, m, a, us, rs, rfl, upd_same, hC, .inr (s0 _ _ ha), hr.tk (Tk.sm s0), hg, fun H' t kp g gt =>
    have s1 : Sm H H' := fun b o h => kp b o (ne_of_none h hx) (s0 _ _ h)
    ⟨rfl, k x H' hx s1 ⟨x, C, dx, t, us, rfl, hC, g, gt, hr.tk (Tk.sm s1)⟩⟩⟩
def sp_f_law_asked (K : PySem.W.Frag) : Sp := fun vs H Q E => ∃ (m : Nat) (p : Addr) (us : List V) (rs : List Rw), vs = [.int (m : Nat), .ref p] ∧ H p = some (.lst us) ∧ RwsAt H us rs ∧ m ≤ 5 ∧ rs.length ≤ 14 ∧ ∀ q H', H q = none → Sm H H' → H' q = some (.lst (nV (asked m rs))) → Q (.ref q) H'
theorem call_lawAsked {K : PySem.W.Frag} {H : Hp} {Q : VK} {E : XK} {m : Nat} {p : Addr} {us : List V} {rs : List Rw} (hp : H p = some (.lst us)) (hR : RwsAt H us rs) (hm : m ≤ 5) (hl : rs.length ≤ 14) (k : ∀ q H', H q = none → Sm H H' → H' q = some (.lst (nV (asked m rs))) → Q (.ref q) H') : sp_f_law_asked K [.int (m : Nat), .ref p] H Q E := ⟨m, p, us, rs, rfl, hp, hR, hm, hl, k⟩
def brJ (r : Rw) (j : Nat) : Bool := match r with
  | .br i _ => decide (i = j)
  | _ => false
theorem ask_eqv (r : Rw) (j : Nat) : PyData.eqv (.tuple (r.ds.take 2)) (.tuple [.str "if", .int (j : Int)]) = brJ r j := by
  have n1 := str_beq (show Str.ofString "raise" ≠ Str.ofString "if" by decide +kernel)
  have n2 := str_beq (show Str.ofString "lower" ≠ Str.ofString "if" by decide +kernel)
  have n3 := str_beq (show Str.ofString "go" ≠ Str.ofString "if" by decide +kernel)
  have n4 := str_beq (show Str.ofString "stop" ≠ Str.ofString "if" by decide +kernel)
  have ib : ∀ a b : Nat, ((a : Int) == (b : Int)) = decide (a = b) := fun a b => by
    by_cases h : a = b
    · subst h; simp
    · rw [decide_eq_false h]
      simpa using fun e : (a : Int) = b => h (Int.ofNat_inj.mp e)
  cases r <;> simp [brJ, Rw.ds, PyData.eqv, PyData.eqvAll, n1, n2, n3, n4, ib]
theorem tk_tpl {H : Hp} : ∀ {ds : List PyData} {vs : List V} (n : Nat), TpL H ds vs → TpL H (ds.take n) (vs.take n)
  | [], vs, n, h => by
    unfold TpL at h
    subst h
    rw [List.take_nil, List.take_nil]
    exact tpl_nil
  | d :: ds, vs, 0, h => by
    rw [List.take_zero, List.take_zero]
    exact tpl_nil
  | d :: ds, vs, n + 1, h => by
    unfold TpL at h
    obtain ⟨v, us, rfl, q, r⟩ := h
    exact tpl_cons q (tk_tpl n r)
theorem w_eqAsk {K : PySem.W.Frag} {H : Hp} {Q : VK} {a b : Addr} {r : Rw} {j : Nat} (h1 : H a = some (.tup (cutV r.vs none (some 2)))) (h2 : H b = some (.tup [.str "if", .int (j : Int)])) (k : ∀ c, c = brJ r j → Q (.bl c) H) : gEq K (.ref a) (.ref b) H Q := by
  rw [cut_hi (by decide)] at h1
  obtain ⟨c1, c2⟩ := rw_cl r
  have sh : SeqAt.shaped (.tuple (r.ds.take 2)) = true := by
    have s1 : PyData.strOk (Str.ofString "raise") = true := by decide +kernel
    have s2 : PyData.strOk (Str.ofString "lower") = true := by decide +kernel
    have s3 : PyData.strOk (Str.ofString "if") = true := by decide +kernel
    have s4 : PyData.strOk (Str.ofString "go") = true := by decide +kernel
    have s5 : PyData.strOk (Str.ofString "stop") = true := by decide +kernel
    show ((PyData.tuple (r.ds.take 2)).canLay0 && decide ((PyData.tuple (r.ds.take 2)).depth ≤ 64)) = true
    cases r <;> simp [Rw.ds, PyData.canLay0, PyData.canLayAll0, PyData.depth, PyData.depthAll, s1, s2, s3, s4, s5]
  have sh2 : SeqAt.shaped (.tuple [.str "if", .int (j : Int)]) = true := by
    have s3 : PyData.strOk (Str.ofString "if") = true := by decide +kernel
    show ((PyData.tuple [.str "if", .int (j : Int)]).canLay0 && decide ((PyData.tuple [.str "if", .int (j : Int)]).depth ≤ 64)) = true
    simp [PyData.canLay0, PyData.canLayAll0, PyData.depth, PyData.depthAll, s3]
  refine .inr ⟨.tuple (r.ds.take 2), .tuple [.str "if", .int (j : Int)], .tup (st_of h1) (TpL.dp _ _ (tk_tpl 2 r.tpl)), .tup (st_of h2) (.cons (.str _) (.cons (.int _) .nil)), sh, sh2, ?_⟩
  exact k _ (ask_eqv r j)
theorem ask_ne {rs : List Rw} {j n : Nat} : (List.range n).filter (fun k => isAsk rs j k) ≠ [] ↔ askB rs j n = true := by
  unfold askB
  rw [List.any_eq_true]
  constructor
  · intro h
    obtain ⟨k, hk⟩ := List.exists_mem_of_ne_nil _ h
    obtain ⟨a, b⟩ := List.mem_filter.mp hk
    exact ⟨k, a, b⟩
  · rintro ⟨k, a, b⟩ h
    have : k ∈ (List.range n).filter (fun k => isAsk rs j k) := List.mem_filter.mpr ⟨a, b⟩
    rw [h] at this
    cases this
theorem flt_succ {p : Nat → Bool} {n : Nat} : (List.range (n + 1)).filter p = (List.range n).filter p ++ (if p n = true then [n] else []) := by
  rw [List.range_succ, List.filter_append]
  by_cases h : p n = true
  · rw [if_pos h, List.filter_cons_of_pos h, List.filter_nil]
  · rw [if_neg h, List.filter_cons_of_neg h, List.filter_nil]
def sp_f_law_named (K : PySem.W.Frag) : Sp := fun vs H Q E => ∃ (c : Str) (p : Addr) (l : List Nat), vs = [.str c, .ref p] ∧ H p = some (.lst (nV l)) ∧ l.length ≤ 100 ∧ (∀ n ∈ l, n < 1000) ∧ c.length ≤ 10 ∧ ∀ q xs H', H q = none → Sm H H' → H' q = some (.lst xs) → TmsAt K H' xs (l.map fun j => .name (nmS c j)) → Q (.ref q) H'
theorem call_lawNamed {K : PySem.W.Frag} {H : Hp} {Q : VK} {E : XK} {c : Str} {p : Addr} {l : List Nat} (hp : H p = some (.lst (nV l))) (hl : l.length ≤ 100) (hn : ∀ n ∈ l, n < 1000) (hc : c.length ≤ 10) (k : ∀ q xs H', H q = none → Sm H H' → H' q = some (.lst xs) → TmsAt K H' xs (l.map fun j => .name (nmS c j)) → Q (.ref q) H') : sp_f_law_named K [.str c, .ref p] H Q E := ⟨c, p, l, rfl, hp, hl, hn, hc, k⟩
theorem call_lawNamedR {K : PySem.W.Frag} {H : Hp} {Q : VK} {E : XK} {c : Str} {p : Addr} {m : Nat} (hp : H p = some (.lst (nV (List.range m)))) (hm : m ≤ 100) (hc : c.length ≤ 10) (k : ∀ q xs H', H q = none → Sm H H' → H' q = some (.lst xs) → TmsAt K H' xs ((List.range m).map fun j => .name (nmS c j)) → xs.length = m → Q (.ref q) H') : sp_f_law_named K [.str c, .ref p] H Q E :=
  call_lawNamed hp (by rw [List.length_range]; exact hm) (fun n hn => by have := List.mem_range.mp hn; omega) hc fun q xs H' a b c d => k q xs H' a b c d (by rw [TmsAt.len d, List.length_map, List.length_range])
local macro_rules | `(tactic| tm_at "rs") => `(tactic| ((with_reducible refine' call_lawNamedR ?h ?i ?j (fun _ _ _ _ _ _ _ _ => ?k)); (case h => tm_at "rlk"); (case i => omega); (case j => decide)))
def sp_f_law_row_sayings (K : PySem.W.Frag) : Sp := fun vs H Q E => ∃ (p dp : Addr) (j : Nat) (us ds : List V) (rs : List Rw) (r : Rw) (l : V), vs = [.ref p, .int (j : Nat), .ref dp, l] ∧ H p = some (.lst us) ∧ RwsAt H us rs ∧ rs[j]? = some r ∧ H dp = some (.lst ds) ∧ TmsAt K H ds (lsT (List.range rs.length)) ∧ TmAt K H (.op "times" (.name "q") (.name (nmS "l" j))) l ∧ (r ≠ .st → (∀ g, r ≠ .go g) → j + 1 < rs.length) ∧ (∀ g, r = .go g → g < rs.length) ∧ (∀ i g, r = .br i g → g < rs.length ∧ i < 5) ∧ rs.length ≤ 14 ∧ ∀ q xs H', H q = none → Sm H H' → H' q = some (.lst xs) → TmsAt K H' xs ((rowS rs j).map opS) → Q (.ref q) H'
theorem call_lawRowS {K : PySem.W.Frag} {H : Hp} {Q : VK} {E : XK} {p dp : Addr} {j : Nat} {us ds : List V} {rs : List Rw} {r : Rw} {l : V} (hp : H p = some (.lst us)) (hR : RwsAt H us rs) (hj : rs[j]? = some r) (hd : H dp = some (.lst ds)) (hD : TmsAt K H ds (lsT (List.range rs.length))) (hl : TmAt K H (.op "times" (.name "q") (.name (nmS "l" j))) l) (hn : r ≠ .st → (∀ g, r ≠ .go g) → j + 1 < rs.length) (hgo : ∀ g, r = .go g → g < rs.length) (hbr : ∀ i g, r = .br i g → g < rs.length ∧ i < 5) (h14 : rs.length ≤ 14) (k : ∀ q xs H', H q = none → Sm H H' → H' q = some (.lst xs) → TmsAt K H' xs ((rowS rs j).map opS) → Q (.ref q) H') : sp_f_law_row_sayings K [.ref p, .int (j : Nat), .ref dp, l] H Q E := ⟨p, dp, j, us, ds, rs, r, l, rfl, hp, hR, hj, hd, hD, hl, hn, hgo, hbr, h14, k⟩
def sp_f_law_sum (K : PySem.W.Frag) : Sp := fun vs H Q E => ∃ (p : Addr) (xs : List V) (ts : List Tm), vs = [.ref p] ∧ H p = some (.lst xs) ∧ TmsAt K H xs ts ∧ xs.length ≤ 1000 ∧ ∀ v H', Sm H H' → TmAt K H' (sumT ts) v → Q v H'
theorem call_lsum {K : PySem.W.Frag} {H : Hp} {Q : VK} {E : XK} {p : Addr} {xs : List V} {ts : List Tm} (hp : H p = some (.lst xs)) (hx : TmsAt K H xs ts) (hl : xs.length ≤ 1000) (k : ∀ v H', Sm H H' → TmAt K H' (sumT ts) v → Q v H') : sp_f_law_sum K [.ref p] H Q E := ⟨p, xs, ts, rfl, hp, hx, hl, k⟩
local macro_rules | `(tactic| tm_at "rs") => `(tactic| ((with_reducible refine' call_lsum ?h ?i ?j (fun _ _ _ _ => ?k)); (case h => tm_at "rlk"); (case i => tm_at "rms"); (case j => omega)))
def sp_f_law_sayings (K : PySem.W.Frag) : Sp := fun vs H Q E => ∃ (m : Nat) (p : Addr) (us : List V) (rs : List Rw), vs = [.int (m : Nat), .ref p] ∧ H p = some (.lst us) ∧ RwsAt H us rs ∧ Prg m rs ∧ ∀ q xs H', H q = none → Sm H H' → H' q = some (.lst xs) → TmsAt K H' xs ((sysOf m rs).map opS) → Q (.ref q) H'
theorem call_lawSys {K : PySem.W.Frag} {H : Hp} {Q : VK} {E : XK} {m : Nat} {p : Addr} {us : List V} {rs : List Rw} (hp : H p = some (.lst us)) (hR : RwsAt H us rs) (hg : Prg m rs) (k : ∀ q xs H', H q = none → Sm H H' → H' q = some (.lst xs) → TmsAt K H' xs ((sysOf m rs).map opS) → Q (.ref q) H') : sp_f_law_sayings K [.int (m : Nat), .ref p] H Q E := ⟨m, p, us, rs, rfl, hp, hR, hg, k⟩
local macro_rules | `(tactic| tm_at "rq") => `(tactic| first | tm_at "rs" | ((with_reducible refine' w_ixM ?h ?i ?j (fun _ _ => ?k)); (case h => tm_at "rlk"); (case i => tm_at "rms"); (case j => first | exact lsg (by omega) | exact nmg (by omega))) | fail "no")
def sp_f_sum_of (K : PySem.W.Frag) : Sp := fun vs H Q E => ∃ (p : Addr) (xs : List V) (ts : List Tm), vs = [.ref p] ∧ H p = some (.lst xs) ∧ TmsAt K H xs ts ∧ ∀ v H', Sm H H' → TmAt K H' (sumT ts) v → Q v H'
theorem call_sumOf {K : PySem.W.Frag} {H : Hp} {Q : VK} {E : XK} {p : Addr} {xs : List V} {ts : List Tm} (hp : H p = some (.lst xs)) (hx : TmsAt K H xs ts) (k : ∀ v H', Sm H H' → TmAt K H' (sumT ts) v → Q v H') : sp_f_sum_of K [.ref p] H Q E := ⟨p, xs, ts, rfl, hp, hx, k⟩
def sp_f_named (K : PySem.W.Frag) : Sp := fun vs H Q E => ∃ (c : Str) (n : V) (z : Str), vs = [.str c, n] ∧ (n = .str "" ∧ z = c ∨ ∃ j : Nat, n = .int (j : Nat) ∧ j < 1000 ∧ z = nmS c j) ∧ c.length ≤ 10 ∧ ∀ p H', H p = none → Sm H H' → TmAt K H' (.name z) (.ref p) → Q (.ref p) H'
theorem call_nm0 {K : PySem.W.Frag} {H : Hp} {Q : VK} {E : XK} {c : Str} (hc : c.length ≤ 10) (k : ∀ p H', H p = none → Sm H H' → TmAt K H' (.name c) (.ref p) → Q (.ref p) H') : sp_f_named K [.str c, .str ""] H Q E := ⟨c, _, c, rfl, .inl ⟨rfl, rfl⟩, hc, k⟩
theorem call_nmJ {K : PySem.W.Frag} {H : Hp} {Q : VK} {E : XK} {c : Str} {i : Int} {j : Nat} (e : i = (j : Nat)) (hj : j < 1000) (hc : c.length ≤ 10) (k : ∀ p H', H p = none → Sm H H' → TmAt K H' (.name (nmS c j)) (.ref p) → Q (.ref p) H') : sp_f_named K [.str c, .int i] H Q E := ⟨c, _, nmS c j, rfl, .inr ⟨j, by rw [e], hj, rfl⟩, hc, k⟩
local macro_rules | `(tactic| tm_at "rs") => `(tactic| first | ((with_reducible refine' call_nm0 ?h (fun _ _ _ _ _ => ?k)); (case h => decide)) | ((with_reducible refine' call_nmJ ?e ?i ?h (fun _ _ _ _ _ => ?k)); (case e => rfl); (case h => decide); (case i => omega)) | fail "no")
def sp_f_Saying__init (K : PySem.W.Frag) : Sp := fun vs H Q E => ∃ (p C dx : Addr) (w : Str) (l r : V), vs = [.ref p, .str w, l, r] ∧ H p = some (.ins C dx []) ∧ SayC K C ∧ (w = "same" ∨ w = "under") ∧ ∀ H', Kp p H H' → H' p = some (.ins C dx [("word", .str w), ("left", l), ("right", r)]) → Q .non H'
theorem mk_say {K : PySem.W.Frag} {H : Hp} {Q : VK} {E : XK} {C : Addr} {w : Str} {l r : V} (hC : SayC K C) (hw : w = "same" ∨ w = "under") (k : ∀ p H', H p = none → Sm H H' → SayAt K H' (.ref p) w l r → Q (.ref p) H') : MkE C (sp_f_Saying__init K) Q E [.str w, l, r] H := fun x dx hx hd ne => ⟨x, C, dx, w, l, r, rfl, upd_same, hC, hw, fun H' kp g => ⟨rfl, k x H' hx (fun a o h => kp a o (ne_of_none h hx) (by rw [upd_ne (ne_of_none h hx), upd_ne (ne_of_none h hd)]; exact h)) ⟨x, C, dx, rfl, hC, g⟩⟩⟩
def sp_f_power_at (K : PySem.W.Frag) : Sp := fun vs H Q E => ∃ (v : V) (t : Tm), vs = [v] ∧ TmAt K H t v ∧ ∀ p H', Sm H H' → TmAt K H' (pwAt t) p → Q p H'
theorem call_powerAt {K : PySem.W.Frag} {H : Hp} {Q : VK} {E : XK} {v : V} {t : Tm} (hv : TmAt K H t v) (k : ∀ p H', Sm H H' → TmAt K H' (pwAt t) p → Q p H') : sp_f_power_at K [v] H Q E := ⟨v, t, rfl, hv, k⟩
local macro_rules | `(tactic| tm_at "rs") => `(tactic| ((with_reducible refine' call_powerAt ?h (fun _ _ _ _ => ?k)); (case h => tm_at "rtm")))
def sp_f_top (K : PySem.W.Frag) : Sp := fun vs H Q E => vs = [] ∧ ∀ p H', Sm H H' → TmAt K H' topT p → Q p H'
theorem call_top {K : PySem.W.Frag} {H : Hp} {Q : VK} {E : XK} (k : ∀ p H', Sm H H' → TmAt K H' topT p → Q p H') : sp_f_top K [] H Q E := ⟨rfl, k⟩
local macro_rules | `(tactic| tm_at "rs") => `(tactic| with_reducible refine call_top (fun _ _ _ _ => ?_))
def sp_f_Program__len (K : PySem.W.Frag) : Sp := fun vs H Q E => ∃ (v : V) (m : Nat) (rs : List Rw), vs = [v] ∧ PrgAt K H v m rs ∧ Q (.int (rs.length : Nat)) H
theorem len_prog {K : PySem.W.Frag} {H : Hp} {Q : VK} {E : XK} {C : Addr} {v : V} {m : Nat} {rs : List Rw} (hv : PrgAt K H v m rs) (hC : PrC K C) (l : rs.length ≤ 1000) (k : Q (.int (rs.length : Nat)) H) : rUnO C (sp_f_Program__len K) E IsLen [v] H Q := by
  obtain ⟨p, D, dx, t, vs, rfl, c, q, _⟩ := id hv
  obtain rfl := ClsN.uniq c hC
  exact w_unO q ⟨_, m, rs, rfl, hv, ⟨_, rfl, by omega, by omega⟩, k⟩
local macro_rules | `(tactic| tm_at "rs") => `(tactic| ((with_reducible refine' len_prog ?h ?i ?j ?k); (case h => tm_at "rpg"); (case i => assumption); (case j => omega)))
def sp_f_base_sayings (K : PySem.W.Frag) : Sp := fun vs H Q E => ∃ (v : V) (m : Nat) (rs : List Rw), vs = [v] ∧ PrgAt K H v m rs ∧ m ≤ 5 ∧ rs.length ≤ 14 ∧ ∀ q xs H', H q = none → Sm H H' → H' q = some (.lst xs) → SysAt K H' xs (baseS m rs.length) → Q (.ref q) H'
theorem call_baseS {K : PySem.W.Frag} {H : Hp} {Q : VK} {E : XK} {v : V} {m : Nat} {rs : List Rw} (hv : PrgAt K H v m rs) (hm : m ≤ 5) (hl : rs.length ≤ 14) (k : ∀ q xs H', H q = none → Sm H H' → H' q = some (.lst xs) → SysAt K H' xs (baseS m rs.length) → Q (.ref q) H') : sp_f_base_sayings K [v] H Q E := ⟨v, m, rs, rfl, hv, hm, hl, k⟩
theorem mk_sy {K : PySem.W.Frag} {H : Hp} {Q : VK} {E : XK} {C : Addr} {w : Str} {l r : V} {a b : Tm} (hC : SayC K C) (hw : w = "same" ∨ w = "under") (ha : TmAt K H a l) (hb : TmAt K H b r) (k : ∀ p H', H p = none → Sm H H' → SyAt K H' (.ref p) (w, a, b) → Q (.ref p) H') : MkE C (sp_f_Saying__init K) Q E [.str w, l, r] H :=
  mk_say hC hw fun p H' np sm h => k p H' np sm ⟨l, r, h, ha.sm sm, hb.sm sm⟩
local macro_rules | `(tactic| tm_at "rs") => `(tactic| ((with_reducible refine' mk_sy ?c ?w ?h ?i (fun _ _ _ _ _ => ?k)); (case c => assumption); (case w => first | exact .inl rfl | exact .inr rfl); (case h => tm_at "rtm"); (case i => tm_at "rtm")))
def sp_f_goal_of (K : PySem.W.Frag) : Sp := fun vs H Q E => ∃ (v : V) (k m : Nat) (rs : List Rw) (r : Rw), vs = [v, .int (k : Nat)] ∧ PrgAt K H v m rs ∧ rs[k]? = some r ∧ ∀ H', Sm H H' → Q r.gv H'
theorem call_goalOf {K : PySem.W.Frag} {H : Hp} {Q : VK} {E : XK} {v : V} {k m : Nat} {rs : List Rw} {r : Rw} (hv : PrgAt K H v m rs) (hk : rs[k]? = some r) (kk : ∀ H', Sm H H' → Q r.gv H') : sp_f_goal_of K [v, .int (k : Nat)] H Q E := ⟨v, k, m, rs, r, rfl, hv, hk, kk⟩
local macro_rules | `(tactic| tm_at "rs") => `(tactic| ((with_reducible refine' call_goalOf ?h ?i (fun _ _ => ?k)); (case h => tm_at "rpg"); (case i => assumption)))
def sp_f_asked_boxes (K : PySem.W.Frag) : Sp := fun vs H Q E => ∃ (v : V) (m : Nat) (rs : List Rw), vs = [v] ∧ PrgAt K H v m rs ∧ RwsOk m rs.length rs ∧ rs.length ≤ 14 ∧ ∀ p H', H p = none → Sm H H' → H' p = some (.lst (nV (asked m rs))) → Q (.ref p) H'
theorem call_askedBoxes {K : PySem.W.Frag} {H : Hp} {Q : VK} {E : XK} {v : V} {m : Nat} {rs : List Rw} (hv : PrgAt K H v m rs) (ho : RwsOk m rs.length rs) (hl : rs.length ≤ 14) (k : ∀ p H', H p = none → Sm H H' → H' p = some (.lst (nV (asked m rs))) → Q (.ref p) H') : sp_f_asked_boxes K [v] H Q E := ⟨v, m, rs, rfl, hv, ho, hl, k⟩
def sp_f_rows_named (K : PySem.W.Frag) : Sp := fun vs H Q E => ∃ (p : Addr) (l : List Nat), vs = [.ref p] ∧ H p = some (.lst (nV l)) ∧ l.length ≤ 100 ∧ (∀ n ∈ l, n < 1000) ∧ ∀ q xs H', H q = none → Sm H H' → H' q = some (.lst xs) → TmsAt K H' xs (lsT l) → Q (.ref q) H'
theorem call_rowsNamed {K : PySem.W.Frag} {H : Hp} {Q : VK} {E : XK} {p : Addr} {l : List Nat} (hp : H p = some (.lst (nV l))) (hl : l.length ≤ 100) (hn : ∀ n ∈ l, n < 1000) (k : ∀ q xs H', H q = none → Sm H H' → H' q = some (.lst xs) → TmsAt K H' xs (lsT l) → Q (.ref q) H') : sp_f_rows_named K [.ref p] H Q E := ⟨p, l, rfl, hp, hl, hn, k⟩
def sp_f_time_sayings (K : PySem.W.Frag) : Sp := fun vs H Q E => ∃ (v : V) (m : Nat) (rs : List Rw), vs = [v] ∧ PrgAt K H v m rs ∧ m ≤ 5 ∧ RwsOk m rs.length rs ∧ rs.length ≤ 14 ∧ ∀ q xs H', H q = none → Sm H H' → H' q = some (.lst xs) → SysAt K H' xs (timeS m rs) → Q (.ref q) H'
theorem call_timeS {K : PySem.W.Frag} {H : Hp} {Q : VK} {E : XK} {v : V} {m : Nat} {rs : List Rw} (hv : PrgAt K H v m rs) (hm : m ≤ 5) (ho : RwsOk m rs.length rs) (hl : rs.length ≤ 14) (k : ∀ q xs H', H q = none → Sm H H' → H' q = some (.lst xs) → SysAt K H' xs (timeS m rs) → Q (.ref q) H') : sp_f_time_sayings K [v] H Q E := ⟨v, m, rs, rfl, hv, hm, ho, hl, k⟩
def sp_f_row_sayings (K : PySem.W.Frag) : Sp := fun vs H Q E => ∃ (v : V) (m j : Nat) (rs : List Rw) (r : Rw), vs = [v, .int (j : Nat)] ∧ PrgAt K H v m rs ∧ rs[j]? = some r ∧ m ≤ 5 ∧ RwsOk m 14 rs ∧ rs.length ≤ 14 ∧ ∀ q xs H', H q = none → Sm H H' → H' q = some (.lst xs) → SysAt K H' xs (rowS rs j) → Q (.ref q) H'
theorem call_rowS {K : PySem.W.Frag} {H : Hp} {Q : VK} {E : XK} {v : V} {m j : Nat} {rs : List Rw} {r : Rw} (hv : PrgAt K H v m rs) (hj : rs[j]? = some r) (hm : m ≤ 5) (ho : RwsOk m 14 rs) (hl : rs.length ≤ 14) (k : ∀ q xs H', H q = none → Sm H H' → H' q = some (.lst xs) → SysAt K H' xs (rowS rs j) → Q (.ref q) H') : sp_f_row_sayings K [v, .int (j : Nat)] H Q E := ⟨v, m, j, rs, r, rfl, hv, hj, hm, ho, hl, k⟩
def sp_f_moves_of (K : PySem.W.Frag) : Sp := fun vs H Q E => ∃ (v : V) (j m : Nat) (w' : Str) (rs : List Rw), vs = [v, .int (j : Nat), .str w'] ∧ PrgAt K H v m rs ∧ (w' = "raise" ∨ w' = "lower") ∧ rs.length ≤ 14 ∧ ∀ p H', H p = none → Sm H H' → H' p = some (.lst (nV (plc rs (mvR w' j) rs.length))) → Q (.ref p) H'
theorem call_movesOf {K : PySem.W.Frag} {H : Hp} {Q : VK} {E : XK} {v : V} {j m : Nat} {w' : Str} {rs : List Rw} (hv : PrgAt K H v m rs) (hw : w' = "raise" ∨ w' = "lower") (hl : rs.length ≤ 14) (k : ∀ p H', H p = none → Sm H H' → H' p = some (.lst (nV (plc rs (mvR w' j) rs.length))) → Q (.ref p) H') : sp_f_moves_of K [v, .int (j : Nat), .str w'] H Q E := ⟨v, j, m, w', rs, rfl, hv, hw, hl, k⟩
def sp_f_box_saying (K : PySem.W.Frag) : Sp := fun vs H Q E => ∃ (v : V) (m j : Nat) (rs : List Rw), vs = [v, .int (j : Nat)] ∧ PrgAt K H v m rs ∧ j < m ∧ m ≤ 5 ∧ rs.length ≤ 14 ∧ ∀ q H', Sm H H' → SyAt K H' q (boxS rs j) → Q q H'
theorem call_boxS {K : PySem.W.Frag} {H : Hp} {Q : VK} {E : XK} {v : V} {m j : Nat} {rs : List Rw} (hv : PrgAt K H v m rs) (hj : j < m) (hm : m ≤ 5) (hl : rs.length ≤ 14) (k : ∀ q H', Sm H H' → SyAt K H' q (boxS rs j) → Q q H') : sp_f_box_saying K [v, .int (j : Nat)] H Q E := ⟨v, m, j, rs, rfl, hv, hj, hm, hl, k⟩
def sp_f_sayings_of (K : PySem.W.Frag) : Sp := fun vs H Q E => ∃ (v : V) (m : Nat) (rs : List Rw), vs = [v] ∧ PrgAt K H v m rs ∧ m ≤ 5 ∧ RwsOk m rs.length rs ∧ rs.length ≤ 14 ∧ ∀ q xs H', H q = none → Sm H H' → H' q = some (.lst xs) → SysAt K H' xs (sysOf m rs) → Q (.ref q) H'
theorem call_sysOf {K : PySem.W.Frag} {H : Hp} {Q : VK} {E : XK} {v : V} {m : Nat} {rs : List Rw} (hv : PrgAt K H v m rs) (hm : m ≤ 5) (ho : RwsOk m rs.length rs) (hl : rs.length ≤ 14) (k : ∀ q xs H', H q = none → Sm H H' → H' q = some (.lst xs) → SysAt K H' xs (sysOf m rs) → Q (.ref q) H') : sp_f_sayings_of K [v] H Q E := ⟨v, m, rs, rfl, hv, hm, ho, hl, k⟩
def sp_f_Program__eq (K : PySem.W.Frag) : Sp := fun vs H Q E => ∃ (a b : Addr) (m n : Nat) (rs qs : List Rw), vs = [.ref a, .ref b] ∧ PrgAt K H (.ref a) m rs ∧ PrgAt K H (.ref b) n qs ∧ ∀ H', Sm H H' → Q (.bl (decide (m = n ∧ rs = qs))) H'
theorem call_progEq {K : PySem.W.Frag} {H : Hp} {Q : VK} {E : XK} {a b : Addr} {m n : Nat} {rs qs : List Rw} (ha : PrgAt K H (.ref a) m rs) (hb : PrgAt K H (.ref b) n qs) (k : ∀ H', Sm H H' → Q (.bl (decide (m = n ∧ rs = qs))) H') : sp_f_Program__eq K [.ref a, .ref b] H Q E := ⟨a, b, m, n, rs, qs, rfl, ha, hb, k⟩
theorem ne_prog {K : PySem.W.Frag} {H : Hp} {Q : VK} {E : XK} {C a b : Addr} {m n : Nat} {rs qs : List Rw} (hC : PrC K C) (ha : PrgAt K H (.ref a) m rs) (hb : PrgAt K H (.ref b) n qs) (k : ∀ H', Sm H H' → Q (.bl (!decide (m = n ∧ rs = qs))) H') : rNeO C (sp_f_Program__eq K) E (.ref a) (.ref b) H Q := by
  obtain ⟨p1, C1, dx1, t1, us1, e1, c1, g1, _⟩ := id ha
  obtain ⟨p2, C2, dx2, t2, us2, e2, c2, g2, _⟩ := id hb
  cases e1
  cases e2
  obtain rfl := prc_eq c1 hC
  obtain rfl := prc_eq c2 hC
  exact w_neO g1 g2 (call_progEq ha hb fun H' s => ⟨_, rfl, k H' s⟩)
theorem eq_prog {K : PySem.W.Frag} {H : Hp} {Q : VK} {E : XK} {C a b : Addr} {m n : Nat} {rs qs : List Rw} (hC : PrC K C) (ha : PrgAt K H (.ref a) m rs) (hb : PrgAt K H (.ref b) n qs) (k : ∀ H', Sm H H' → Q (.bl (decide (m = n ∧ rs = qs))) H') : rEqO C (sp_f_Program__eq K) E (.ref a) (.ref b) H Q := by
  obtain ⟨p1, C1, dx1, t1, us1, e1, c1, g1, _⟩ := id ha
  obtain ⟨p2, C2, dx2, t2, us2, e2, c2, g2, _⟩ := id hb
  cases e1
  cases e2
  obtain rfl := prc_eq c1 hC
  obtain rfl := prc_eq c2 hC
  exact w_eqO g1 g2 (call_progEq ha hb k)
def sp_f_law_right (K : PySem.W.Frag) : Sp := fun vs H Q E => ∃ (m : Nat) (p : Addr) (us : List V) (rs : List Rw), vs = [.int (m : Nat), .ref p] ∧ H p = some (.lst us) ∧ RwsAt H us rs ∧ Prg m rs ∧ ∀ H', Sm H H' → Q (.bl true) H'
theorem call_right32 {K : PySem.W.Frag} {H : Hp} {Q : VK} {E : XK} {m : Nat} {p : Addr} {us : List V} {rs : List Rw} (hp : H p = some (.lst us)) (hR : RwsAt H us rs) (hg : Prg m rs) (k : ∀ H', Sm H H' → Q (.bl true) H') : sp_f_law_right K [.int (m : Nat), .ref p] H Q E := ⟨m, p, us, rs, rfl, hp, hR, hg, k⟩
def sp_f_law (K : PySem.W.Frag) : Sp := fun vs H Q E => ∃ (a : Addr) (ns : List Int), vs = [.ref a] ∧ SqF K H a (ns.map V.int) ∧ ns.length ≤ 63 ∧ ∀ H', Q (.bl true) H'
section
variable {P : Program} {w : World} {K : PySem.W.Frag} {mg : Str → Option Value} {base : Heap}
/-! ### _law_take -/
theorem ok_f_law_take {f : Addr} {fd : FuncData} (F : Fun K "_law_take" "_law_take" s_f_law_take f fd) :
    FnG P w K mg base CX0 1 f fd ["box", "wide"] (sp_f_law_take K) := by
  refine okG F sc_f_law_take (fun vs H Q E h => ?_) (fun cdv A outer s H vs Q E hr h => ⟨_, (pss_cons (ps_if (pt_cmpR op_gGt (pe_ix (ix_g (K := K) rfl) (pv 0) pe_int (fun _ _ => rfl)) pe_int (nomark _)) (pss_cons (ps_set (i := 2) sc_f_law_take.nd rfl (by first | exact Or.inl rfl | exact Or.inr rfl) (pe_op op_gMod (pe_ix (ix_g (K := K) rfl) (pv 0) pe_int (fun _ _ => rfl)) (pv 1)))
    (pss_cons (ps_asg (pe_op op_gDiv (pe_ix (ix_g (K := K) rfl) (pv 0) pe_int (fun _ _ => rfl)) (pv 1)) (pg_sub (pv 0) pe_int set_list))
    (pss_one (ps_ret (pv 2))))) pss_nil)
    (pss_cons (ps_set (i := 3) sc_f_law_take.nd rfl (by first | exact Or.inl rfl | exact Or.inr rfl) (pe_op op_gMod (pe_op op_gMul (pe_ix (ix_g (K := K) rfl) (pv 0) pe_int (fun _ _ => rfl)) pe_int) pe_int))
    (pss_cons (ps_asg (pe_op (op_gAdd (K := K) rfl) (pe_op op_gMod (pe_op (op_gAdd (K := K) rfl) (pe_op op_gMul (pv 3) pe_int) pe_int) pe_int) pe_int) (pg_sub (pv 0) pe_int set_list))
    (pss_one (ps_ret (pe_op op_gMod (pe_op op_gDiv (pe_op (op_gAdd (K := K) rfl) (pe_op op_gMul (pv 3) pe_int) (pe_ix (ix_g (K := K) rfl) (pv 0) pe_int (fun _ _ => rfl))) pe_int) (pv 1))))))), ?_⟩)
  · obtain ⟨_, _, rfl, _⟩ := h
    rfl
  · obtain ⟨b, w, rfl, hB, hw, k⟩ := h
    try dsimp only [cxOf, Cx.nox, Cx.wish]
    change (_ : L2.TS) _ [some (.ref b), some (.int w), none, none] _
    refine w_start ?_
    obtain ⟨x, s, hb, hx, hs, hs2⟩ := hB
    obtain ⟨hw0, hw1⟩ := hw
    repeat' (tm_at "rs")
    · refine k _ _ (by omega) (by omega) (by assumption) ⟨_, _, by assumption, ?_, hs, hs2⟩
      exact Int.ediv_nonneg hx (by omega)
    · refine k _ _ (by omega) (by omega) (by assumption) ⟨_, _, by assumption, hx, ?_, ?_⟩
      · omega
      · omega
/-! ### _law_piece -/
theorem ok_f_law_piece {f : Addr} {fd : FuncData} (F : Fun K "_law_piece" "_law_piece" s_f_law_piece f fd)
    (D_f_law_take : Def P w K mg base CX0 "_law_take" 1 ["box", "wide"] (sp_f_law_take K))
    (m_range : mg "range" = none)
    (m_len : mg "len" = none)
    (m_int : mg "int" = none) :
    FnG P w K mg base CX0 2 f fd ["box", "boxes", "at"] (sp_f_law_piece K) := by
  refine okG F sc_f_law_piece (fun vs H Q E h => ?_) (fun cdv A outer s H vs Q E hr h => ⟨_, (pss_cons (ps_set (i := 3) sc_f_law_piece.nd rfl (by first | exact Or.inl rfl | exact Or.inr rfl) (pe_f D_f_law_take (hr.mono (by omega)) (by rfl) pass0 (pa_cons (pv 0) (pa_cons pe_int pa_nil))))
    (pss_cons (ps_set (i := 4) sc_f_law_piece.nd rfl (by first | exact Or.inl rfl | exact Or.inr rfl) (pe_f D_f_law_take (hr.mono (by omega)) (by rfl) pass0 (pa_cons (pv 0) (pa_cons (pv 1) pa_nil))))
    (pss_cons (ps_if (pt_cmpR (op_gEq (K := K) rfl hr.units) (pv 3) pe_int (nomark _)) (pss_one (ps_ret (pe_op op_gMul (pe_lst (pa_cons (pe_tup (pa_cons pe_str (pa_cons (pv 4) pa_nil))) pa_nil)) (pe_op (op_gAdd (K := K) rfl) pe_int (pe_f D_f_law_take (hr.mono (by omega)) (by rfl) pass0 (pa_cons (pv 0) (pa_cons pe_int pa_nil))))))) pss_nil)
    (pss_cons (ps_if (pt_cmpR (op_gEq (K := K) rfl hr.units) (pv 3) pe_int (nomark _)) (pss_one (ps_ret (pe_lst (pa_cons (pe_ix (ix_g (K := K) rfl) (pe_lst (pa_cons (pe_tup (pa_cons pe_str (pa_cons (pe_op (op_gAdd (K := K) rfl) (pv 2) pe_int) pa_nil))) (pa_cons (pe_tup (pa_cons pe_str (pa_cons (pv 4) (pa_cons (pe_op (op_gAdd (K := K) rfl) (pv 2) pe_int) pa_nil)))) pa_nil))) (pe_f D_f_law_take (hr.mono (by omega)) (by rfl) pass0 (pa_cons (pv 0) (pa_cons pe_int pa_nil))) (fun _ _ => rfl)) pa_nil)))) pss_nil)
    (pss_cons (ps_asg (pe_lc (own := _) rfl sc_f_law_piece.nd (pi_range1 (by rfl) m_range (pa_cons (pv 1) pa_nil)) (blkOk_by (own := [("k", 6)]) (N := ["box", "boxes", "at", "form", "j", "some", "k", "body"]) (sc := defScope s_f_law_piece) (by decide +kernel)) (fun _ _ _ _ _ => (pg_name (i := 6) sc_f_law_piece.nd rfl (by first | exact Or.inl rfl | exact Or.inr rfl))) (fun _ _ _ _ _ => pts_one (pt_cmpR (op_gNe (K := K) rfl hr.units) (pv 6) (pv 4) (nomark _))) (fun _ _ _ _ _ => (pv 6))) (pg_name (i := 5) sc_f_law_piece.nd rfl (by first | exact Or.inl rfl | exact Or.inr rfl)))
    (pss_cons (ps_setLc (i := 7) rfl sc_f_law_piece.nd rfl rfl (sw_true rfl rfl rfl (by decide +kernel)) (pi_range1 (by rfl) m_range (pa_cons (pe_op op_gMul (pe_f D_f_law_take (hr.mono (by omega)) (by rfl) pass0 (pa_cons (pv 0) (pa_cons pe_int pa_nil))) (pe_callTy call_gInt (by rfl) m_int PyProof.Rows.boot_int (pa_cons (pe_cmpR op_gGt (pe_callB (call_gLen (K := K) rfl) (by rfl) m_len PySem.boot_len (pa_cons (pv 5) pa_nil)) pe_int (nomark _)) pa_nil))) pa_nil)) (blkOk_by (own := [("k", 6)]) (N := ["box", "boxes", "at", "form", "j", "some", "k", "body"]) (sc := defScope s_f_law_piece) (by decide +kernel)) (fun _ _ _ _ _ => (pg_name (i := 6) sc_f_law_piece.nd rfl (by first | exact Or.inl rfl | exact Or.inr rfl))) (fun _ _ _ _ _ => pts_nil) (fun _ _ _ _ _ => (pe_tup (pa_cons pe_str (pa_cons (pe_ix (ix_g (K := K) rfl) (pv 5) (pe_f D_f_law_take (hr.mono (by omega)) (by rfl) pass0 (pa_cons (pv 0) (pa_cons (pe_callB (call_gLen (K := K) rfl) (by rfl) m_len PySem.boot_len (pa_cons (pv 5) pa_nil)) pa_nil))) (fun _ _ => rfl)) pa_nil)))))
    (pss_one (ps_ret (pe_op (op_gAdd (K := K) rfl) (pe_op (op_gAdd (K := K) rfl) (pe_lst (pa_cons (pe_tup (pa_cons pe_str (pa_cons (pv 4) (pa_cons (pe_op (op_gAdd (K := K) rfl) (pe_op (op_gAdd (K := K) rfl) (pv 2) pe_int) (pe_callB (call_gLen (K := K) rfl) (by rfl) m_len PySem.boot_len (pa_cons (pv 7) pa_nil))) pa_nil)))) (pa_cons (pe_tup (pa_cons pe_str (pa_cons (pv 4) pa_nil))) pa_nil))) (pv 7)) (pe_lst (pa_cons (pe_tup (pa_cons pe_str (pa_cons (pv 2) pa_nil))) pa_nil))))))))))), ?_⟩)
  · obtain ⟨_, _, _, rfl, _⟩ := h
    rfl
  · obtain ⟨b, m, t, rfl, hB, m1, m5, t1, k⟩ := h
    try dsimp only [cxOf, Cx.nox, Cx.wish]
    change (_ : L2.TS) _ [some (.ref b), some (.int (m : Int)), some (.int (t : Int)), none, none, none, none, none] _
    refine w_start ?_
    repeat' (tm_at "rs")
    · rename_i f Ha f0 f1 ka ba j Hb j0 j1 kb bb c1 s1 Hc n1 t1' g1 l1 Hd n2 t2 g2 z He z0 z1 kc bc
      obtain ⟨j, rfl⟩ := Int.eq_ofNat_of_zero_le j0
      refine w_rep1V (by tm_at "rlk") (by omega) (by omega) (fun p H' np sp gp => ?_)
      repeat' (tm_at "rs")
      have a1 : Tk Hc H' := by tm_at "rtk"
      have e1 : (List.replicate (1 + z).toNat (Rw.up j)).length = (1 + z).toNat := List.length_replicate
      exact k p _ (List.replicate (1 + z).toNat (.up j)) H' (by tm_at "rfr") gp (paired_rep (rw_one (a1 _ _ g1)) _) (by omega) (by omega) (fun r hr => by rw [(List.mem_replicate.mp hr).2]; show j < m; omega) (by tm_at "rkp") (by tm_at "rbx")
    · rename_i f Ha f0 f1 ka ba j Hb j0 j1 kb bb c1 c2 s1 Hc n1 t1' g1 s2 Hd n2 t2 g2 l1 He n3 t3 g3 z Hf z0 z1 kc bc
      obtain ⟨j, rfl⟩ := Int.eq_ofNat_of_zero_le j0
      have a2 : Tk Hd Hf := by tm_at "rtk"
      have a1 : Tk Hc Hf := by tm_at "rtk"
      refine w_ixP (fun x => ∃ r, RwAt Hf x r ∧ r.ok m (t + 1 + 1)) (.inl (by tm_at "rsq")) z0 (by show z < 2; omega) (all2 ⟨.go (t + 1), rw_one (a1 _ _ g1), (show t + 1 < t + 1 + 1 by omega)⟩ ⟨.br j (t + 1), rw_one (a2 _ _ g2), (show j < m ∧ t + 1 < t + 1 + 1 by omega)⟩) (fun x hx => ?_)
      obtain ⟨r, hxr, ro⟩ := hx
      repeat' (tm_at "rs")
      rename_i p H' np sp gp
      exact k p _ [r] H' (by tm_at "rfr") gp (.cons (hxr.tk (Tk.sm sp)) .nil) (Nat.le_refl _) (by show 1 ≤ 6; decide) (RwsOk.one ro) (by tm_at "rkp") (by tm_at "rbx")
    · rename_i f Ha f0 f1 ka ba j Hb j0 j1 kb bb c1 c2
      obtain ⟨j, rfl⟩ := Int.eq_ofNat_of_zero_le j0
      have hm : ((m : Int)).toNat = m := Int.toNat_natCast m
      rw [hm]
      refine lcR (fun D i H' => ∃ xs : List Nat, H' D = some (.lst (nV xs)) ∧ xs.length ≤ i ∧ (∀ x ∈ xs, x < m) ∧ Sm Hb H') ?_ ?_ ?_
      · intro D H' nD sm hD
        exact ⟨[], hD, Nat.le_refl _, (fun x hx => by cases hx), sm⟩
      · rintro D i H' nD hi ⟨xs, hD, hl, hx, hs⟩
        have hxl := nV_len xs
        repeat' (tm_at "rs")
        · rename_i c3 H'' k3 g3
          refine ⟨xs ++ [i], by rw [nV_snoc]; rw [Int.zero_add] at g3; exact g3, by rw [List.length_append]; show xs.length + 1 ≤ _; omega, fun x hx2 => ?_, by tm_at "rsm"⟩
          rcases List.mem_append.mp hx2 with h | h
          · exact hx x h
          · rw [List.mem_singleton.mp h]
            exact hi
        · exact ⟨xs, hD, by omega, hx, hs⟩
      · rintro D Hc nD ⟨xs, hD, hl, hx, hs⟩
        have hxl := nV_len xs
        repeat' (tm_at "rs")
    
        all_goals
          rename_i z He z0 z1 ke be hh
          refine lcR (fun B i H' => ∃ us rs, H' B = some (.lst us) ∧ RwsAt H' us rs ∧ rs.length = i ∧ (∀ r ∈ rs, ∃ j, r = .up j ∧ j < m) ∧ Kp b He H' ∧ BoxAt H' b) ?_ ?_ ?_
          · intro B H' nB sm hB2
            exact ⟨[], [], hB2, .nil, rfl, (fun r hr => by cases hr), by tm_at "rkp", by tm_at "rbx"⟩
          · rintro B i H' nB hi ⟨us, rs, hB2, hr, hrl, ho, hk, hb⟩
            have hrl2 := paired_len hr
            have hDb : D ≠ b := ne_newB nD (by assumption)
            have hi2 : i < 3 := by omega
            have hx0 : 0 < xs.length := by
              rcases Nat.eq_zero_or_pos xs.length with h | h
              · exfalso
                rw [hxl, h] at hh
                omega
              · exact h
            repeat' (tm_at "rs")
            rename_i u Hf u0 u1 kf bf
            have hD4 : Hf D = some (.lst (nV xs)) := by tm_at "rlk"
            refine w_ixN (.inl (sq_of hD4)) u0 (by omega) (fun x hxx => ?_)
            repeat' (tm_at "rs")
            rename_i q Hg nq sq gq Hh kh gh
            have a2 : Tk Hg Hh := by tm_at "rtk"
            have a1 : Tk H' Hh := by clear a2; tm_at "rtk"
            refine ⟨_, rs ++ [.up x], gh, paired_app (hr.tk a1) (.cons (rw_one (r := .up x) (a2 _ _ gq)) .nil), by rw [List.length_append, hrl]; rfl, fun r hr2 => ?_, by tm_at "rkp", by tm_at "rbx"⟩
            rcases List.mem_append.mp hr2 with h | h
            · exact ho r h
            · exact ⟨x, List.mem_singleton.mp h, hx x hxx⟩
          · rintro B Hd nB ⟨us, rs, hB2, hr, hrl, ho, hk, hb⟩
            have hrl2 := paired_len hr
            have hrs3 : rs.length ≤ 3 := by omega
            repeat' (tm_at "rs")
            rename_i s1 H1 n1 t1' g1 s2 H2 n2 t2 g2 l1 H3 n3 t3 g3 l2 H4 n4 t4 g4 s3 H5 n5 t5 g5 l3 H6 n6 t6 g6 l4 H7 n7 t7 g7
            have a3 : Tk H5 H7 := by tm_at "rtk"
            have a2 : Tk H2 H7 := by clear a3; tm_at "rtk"
            have a1 : Tk H1 H7 := by clear a2 a3; tm_at "rtk"
            have a0 : Tk Hd H7 := by clear a1 a2 a3; tm_at "rtk"
            have g1' : H1 s1 = some (.tup (Rw.br j (t + 3 + rs.length)).vs) := by rw [g1, hrl2]; rfl
            have el : ([Rw.br j (t + 3 + rs.length), Rw.dn j] ++ rs ++ [Rw.go t]).length = rs.length + 3 := by
              rw [List.length_append, List.length_append]
              show 2 + rs.length + 1 = _
              omega
            exact k _ _ ([Rw.br j (t + 3 + rs.length), Rw.dn j] ++ rs ++ [Rw.go t]) _ (by tm_at "rfr") g7 (paired_app (paired_app (.cons (rw_one (a1 _ _ g1')) (.cons (rw_one (r := .dn j) (a2 _ _ g2)) .nil)) (hr.tk a0)) (.cons (rw_one (r := .go t) (a3 _ _ g5)) .nil)) (by omega) (by omega) (by
              rw [el]
              refine RwsOk.app (RwsOk.app (RwsOk.cons (r := Rw.br j (t + 3 + rs.length)) (show j < m ∧ t + 3 + rs.length < t + (rs.length + 3) + 1 by omega) (RwsOk.one (r := Rw.dn j) (show j < m by omega))) (fun r hr2 => ?_)) (RwsOk.one (r := Rw.go t) (show t < t + (rs.length + 3) + 1 by omega))
              obtain ⟨x, rfl, hx⟩ := ho r hr2
              exact hx) (by tm_at "rkp") (by tm_at "rbx")
/-! ### _law_ending_rows -/
theorem ok_f_law_ending_rows {f : Addr} {fd : FuncData} (F : Fun K "_law_ending_rows" "_law_ending_rows" s_f_law_ending_rows f fd)
    (D_f_law_piece : Def P w K mg base CX0 "_law_piece" 2 ["box", "boxes", "at"] (sp_f_law_piece K))
    (D_f_law_take : Def P w K mg base CX0 "_law_take" 1 ["box", "wide"] (sp_f_law_take K))
    (m_range : mg "range" = none)
    (m_len : mg "len" = none) :
    FnG P w K mg base CX0 3 f fd ["box", "boxes"] (sp_f_law_ending_rows K) := by
  refine okG F sc_f_law_ending_rows (fun vs H Q E h => ?_) (fun cdv A outer s H vs Q E hr h => ⟨_, (pss_cons (ps_set (i := 2) sc_f_law_ending_rows.nd rfl (by first | exact Or.inl rfl | exact Or.inr rfl) (pe_lst pa_nil))
    (pss_cons (ps_for PassesOwn.never rfl (pi_range1 (by rfl) m_range (pa_cons (pe_op (op_gAdd (K := K) rfl) pe_int (pe_f D_f_law_take (hr.mono (by omega)) (by rfl) pass0 (pa_cons (pv 0) (pa_cons pe_int pa_nil)))) pa_nil)) (pg_name (i := 3) sc_f_law_ending_rows.nd rfl (by first | exact Or.inl rfl | exact Or.inr rfl)) (pss_cons (ps_set (i := 4) sc_f_law_ending_rows.nd rfl (by first | exact Or.inl rfl | exact Or.inr rfl) (pe_f D_f_law_piece (hr.mono (by omega)) (by rfl) pass0 (pa_cons (pv 0) (pa_cons (pv 1) (pa_cons (pe_callB (call_gLen (K := K) rfl) (by rfl) m_len PySem.boot_len (pa_cons (pv 2) pa_nil)) pa_nil)))))
    (pss_one (ps_if (pt_cmpR op_gLt (pe_op (op_gAdd (K := K) rfl) (pe_callB (call_gLen (K := K) rfl) (by rfl) m_len PySem.boot_len (pa_cons (pv 2) pa_nil)) (pe_callB (call_gLen (K := K) rfl) (by rfl) m_len PySem.boot_len (pa_cons (pv 4) pa_nil))) pe_int (nomark _)) (pss_one (ps_set (i := 2) sc_f_law_ending_rows.nd rfl (by first | exact Or.inl rfl | exact Or.inr rfl) (pe_op (op_gAdd (K := K) rfl) (pv 2) (pv 4)))) pss_nil))))
    (pss_cons (ps_if (PW.pt (pw_and (pt_cmpR (op_gEq (K := K) rfl hr.units) (pe_f D_f_law_take (hr.mono (by omega)) (by rfl) pass0 (pa_cons (pv 0) (pa_cons pe_int pa_nil))) pe_int (nomark _)) (pw_and1 (pt_cmpR op_gLt (pe_callB (call_gLen (K := K) rfl) (by rfl) m_len PySem.boot_len (pa_cons (pv 2) pa_nil)) pe_int (nomark _))))) (pss_one (ps_set (i := 2) sc_f_law_ending_rows.nd rfl (by first | exact Or.inl rfl | exact Or.inr rfl) (pe_op (op_gAdd (K := K) rfl) (pv 2) (pe_lst (pa_cons (pe_tup (pa_cons pe_str (pa_cons (pe_f D_f_law_take (hr.mono (by omega)) (by rfl) pass0 (pa_cons (pv 0) (pa_cons (pv 1) pa_nil))) (pa_cons (pe_op (op_gAdd (K := K) rfl) (pe_callB (call_gLen (K := K) rfl) (by rfl) m_len PySem.boot_len (pa_cons (pv 2) pa_nil)) pe_int) pa_nil)))) (pa_cons (pe_tup (pa_cons pe_str pa_nil)) pa_nil)))))) pss_nil)
    (pss_one (ps_ret (pe_op (op_gAdd (K := K) rfl) (pv 2) (pe_lst (pa_cons (pe_tup (pa_cons pe_str pa_nil)) pa_nil)))))))), ?_⟩)
  · obtain ⟨_, _, rfl, _⟩ := h
    rfl
  · obtain ⟨b, m, rfl, hB, m1, m5, k⟩ := h
    try dsimp only [cxOf, Cx.nox, Cx.wish]
    change (_ : L2.TS) _ [some (.ref b), some (.int (m : Int)), none, none, none] _
    refine w_start ?_
    repeat' (tm_at "rs")
    rename_i l0 H1 nl sl gl w H2 w0 w1 k2 b2
    refine loopR (fun i σ' H' => ∃ (x3 x4 : Option V) (p : Addr) (vs : List V) (rs : List Rw), σ' = [some (.ref b), some (.int (m : Int)), some (.ref p), x3, x4] ∧ H p = none ∧ H' p = some (.lst vs) ∧ RwsAt H' vs rs ∧ rs.length ≤ 12 ∧ RwsOk m (rs.length + 1) rs ∧ Kp b H H' ∧ BoxAt H' b) ?_ ?_ ?_
    · exact ⟨_, _, l0, [], [], rfl, nl, by tm_at "rlk", .nil, by decide, RwsOk.nil, by tm_at "rkp", by tm_at "rbx"⟩
    · rintro i σ' H' hi ⟨x3, x4, p, vs, rs, rfl, np, hp, hr, hl, ho, hk, hb⟩
      have hvl := paired_len hr
      repeat' (tm_at "rs")
      rw [hvl]
      refine call_piece hb m1 m5 (by omega) (fun q us qs H3 nq gq hq q1 q6 oq k3 b3 => ?_)
      have hul := paired_len hq
      have hp3 : H3 p = some (.lst vs) := k3 _ _ (ne_newB np hB) hp
      repeat' (tm_at "rs")
      · rename_i c r H4 nr sr gr
        have t1 : Tk H' H4 := by tm_at "rtk"
        refine ⟨_, _, r, _, rs ++ qs, rfl, by tm_at "rfr", gr, paired_app (hr.tk t1) (hq.tk (Tk.sm sr)), by rw [List.length_append]; omega, ?_, by tm_at "rkp", by tm_at "rbx"⟩
        rw [List.length_append]
        exact (ho.up (by omega)).app (oq.up (by omega))
      · have t1 : Tk H' H3 := by tm_at "rtk"
        exact ⟨_, _, p, vs, rs, rfl, np, hp3, hr.tk t1, hl, ho, by tm_at "rkp", by tm_at "rbx"⟩
    · rintro σ' H' ⟨x3, x4, p, vs, rs, rfl, np, hp, hr, hl, ho, hk, hb⟩
      have hvl := paired_len hr
      repeat' (tm_at "rs")
      · rename_i z Ha z0 z1 ka ba c1 c2 j Hb j0 j1 kb bb s1 Hc n1 t1 g1 s2 Hd n2 t2 g2 l1 He n3 t3 g3 l2 Hf n4 t4 g4 s3 Hg n5 t5 g5 l3 Hi n6 t6 g6 l4 Hj n7 t7 g7
        obtain ⟨j, rfl⟩ := Int.eq_ofNat_of_zero_le j0
        have a3 : Tk Hg Hj := by tm_at "rtk"
        have a2 : Tk Hd Hg := by tm_at "rtk"
        have a1 : Tk Hc Hd := by tm_at "rtk"
        have a0 : Tk H' Hc := by tm_at "rtk"
        have b2 := Tk.trans a2 a3
        have b1 := Tk.trans a1 b2
        have b0 := Tk.trans a0 b1
        have g1' : Hc s1 = some (.tup (Rw.br j (rs.length + 2)).vs) := by rw [g1, hvl]; rfl
        exact k _ _ (rs ++ [Rw.br j (rs.length + 2), Rw.st] ++ [Rw.st]) _ (by tm_at "rfr") g7 (paired_app (paired_app (hr.tk b0) (.cons (rw_one (b1 _ _ g1')) (.cons (rw_one (r := .st) (b2 _ _ g2)) .nil))) (.cons (rw_one (r := .st) (a3 _ _ g5)) .nil)) ⟨m1, m5, by
          have el : (rs ++ [Rw.br j (rs.length + 2), Rw.st] ++ [Rw.st]).length = rs.length + 3 := by rw [List.length_append, List.length_append]; rfl
          rw [el]
          exact ((ho.up (by omega)).app (RwsOk.cons (r := Rw.br j (rs.length + 2)) (show j < m ∧ rs.length + 2 < rs.length + 3 by omega) (RwsOk.one (r := Rw.st) trivial))).app (RwsOk.one (r := Rw.st) trivial), by
          rw [List.length_append, List.length_append]
          show rs.length + 2 + 1 ≤ 14
          omega, _, .st, rfl, trivial⟩ (by tm_at "rkp") (by tm_at "rbx")
      all_goals
        rename_i s3 Hg n5 t5 g5 l3 Hi n6 t6 g6 l4 Hj n7 t7 g7
        have a3 : Tk Hg Hj := by tm_at "rtk"
        have a0 : Tk H' Hg := by tm_at "rtk"
        exact k _ _ (rs ++ [Rw.st]) _ (by tm_at "rfr") g7 (paired_app (hr.tk (Tk.trans a0 a3)) (.cons (rw_one (r := .st) (a3 _ _ g5)) .nil)) ⟨m1, m5, by
          rw [List.length_append]
          exact ho.app (RwsOk.one (r := Rw.st) trivial), by
          rw [List.length_append]
          show rs.length + 1 ≤ 14
          omega, _, .st, rfl, trivial⟩ (by tm_at "rkp") (by tm_at "rbx")
/-! ### _law_row -/
theorem ok_f_law_row {f : Addr} {fd : FuncData} (F : Fun K "_law_row" "_law_row" s_f_law_row f fd)
    (D_f_law_take : Def P w K mg base CX0 "_law_take" 1 ["box", "wide"] (sp_f_law_take K)) :
    FnG P w K mg base CX0 2 f fd ["box", "boxes", "many"] (sp_f_law_row K) := by
  refine okG F sc_f_law_row (fun vs H Q E h => ?_) (fun cdv A outer s H vs Q E hr h => ⟨_, (pss_cons (ps_set (i := 3) sc_f_law_row.nd rfl (by first | exact Or.inl rfl | exact Or.inr rfl) (pe_ix (ix_g (K := K) rfl) (pe_lst (pa_cons pe_str (pa_cons pe_str (pa_cons pe_str (pa_cons pe_str (pa_cons pe_str (pa_cons pe_str (pa_cons pe_str pa_nil)))))))) (pe_f D_f_law_take (hr.mono (by omega)) (by rfl) pass0 (pa_cons (pv 0) (pa_cons pe_int pa_nil))) (fun _ _ => rfl)))
    (pss_cons (ps_if (pt_cmpR (op_gEq (K := K) rfl hr.units) (pv 3) pe_str (nomark _)) (pss_one (ps_ret (pe_tup (pa_cons (pv 3) pa_nil)))) pss_nil)
    (pss_cons (ps_if (pt_cmpR (op_gEq (K := K) rfl hr.units) (pv 3) pe_str (nomark _)) (pss_one (ps_ret (pe_tup (pa_cons (pv 3) (pa_cons (pe_f D_f_law_take (hr.mono (by omega)) (by rfl) pass0 (pa_cons (pv 0) (pa_cons (pv 2) pa_nil))) pa_nil))))) pss_nil)
    (pss_cons (ps_if (pt_cmpR (op_gEq (K := K) rfl hr.units) (pv 3) pe_str (nomark _)) (pss_one (ps_ret (pe_tup (pa_cons (pv 3) (pa_cons (pe_f D_f_law_take (hr.mono (by omega)) (by rfl) pass0 (pa_cons (pv 0) (pa_cons (pv 1) pa_nil))) (pa_cons (pe_f D_f_law_take (hr.mono (by omega)) (by rfl) pass0 (pa_cons (pv 0) (pa_cons (pv 2) pa_nil))) pa_nil)))))) pss_nil)
    (pss_one (ps_ret (pe_tup (pa_cons (pv 3) (pa_cons (pe_f D_f_law_take (hr.mono (by omega)) (by rfl) pass0 (pa_cons (pv 0) (pa_cons (pv 1) pa_nil))) pa_nil))))))))), ?_⟩)
  · obtain ⟨_, _, _, rfl, _⟩ := h
    rfl
  · obtain ⟨b, m, n, rfl, hB, m1, m5, n1, n14, k⟩ := h
    try dsimp only [cxOf, Cx.nox, Cx.wish]
    change (_ : L2.TS) _ [some (.ref b), some (.int (m : Int)), some (.int (n : Int)), none] _
    refine w_start ?_
    repeat' (tm_at "rs")
    rename_i lw H1 nl sl gl w H2 w0 w1 k2 b2
    have glw : H1 lw = some (.lst (([Str.ofString "raise", Str.ofString "raise", Str.ofString "lower", Str.ofString "if", Str.ofString "if", Str.ofString "go", Str.ofString "stop"] : List Str).map V.str)) := gl
    refine w_ixStrs (ys := [Str.ofString "raise", Str.ofString "raise", Str.ofString "lower", Str.ofString "if", Str.ofString "if", Str.ofString "go", Str.ofString "stop"]) (by tm_at "rsq") w0 (by show w < 7; omega) (fun s hs => ?_)
    have hs : s = Str.ofString "raise" ∨ s = Str.ofString "lower" ∨ s = Str.ofString "if" ∨ s = Str.ofString "go" ∨ s = Str.ofString "stop" := by
      simp only [List.mem_cons, List.not_mem_nil, or_false] at hs
      rcases hs with h | h | h | h | h | h | h <;> simp [h]
    repeat' (tm_at "rs")
    · rename_i e p H3 np sp gp
      subst e
      exact k p .st H3 (by tm_at "rfr") gp trivial (by tm_at "rkp") (by tm_at "rbx")
    · rename_i e0 e g H3 g0 g1 k3 b3 p H4 np sp gp
      subst e
      obtain ⟨g, rfl⟩ := Int.eq_ofNat_of_zero_le g0
      exact k p (.go g) H4 (by tm_at "rfr") gp (show g < n by omega) (by tm_at "rkp") (by tm_at "rbx")
    · rename_i e0 e1 e j H3 j0 j1 k3 b3 g H5 g0 g1 k5 b5 p H4 np sp gp
      subst e
      obtain ⟨g, rfl⟩ := Int.eq_ofNat_of_zero_le g0
      obtain ⟨j, rfl⟩ := Int.eq_ofNat_of_zero_le j0
      exact k p (.br j g) H4 (by tm_at "rfr") gp (show j < m ∧ g < n by omega) (by tm_at "rkp") (by tm_at "rbx")
    · rename_i e0 e1 e j H3 j0 j1 k3 b3 p H4 np sp gp
      obtain ⟨j, rfl⟩ := Int.eq_ofNat_of_zero_le j0
      have hs2 : s = Str.ofString "raise" ∨ s = Str.ofString "lower" := by
        rcases hs with h | h | h | h | h
        · exact .inl h
        · exact .inr h
        · exact absurd h e
        · exact absurd h e1
        · exact absurd h e0
      rcases hs2 with rfl | rfl
      · exact k p (.up j) H4 (by tm_at "rfr") gp (show j < m by omega) (by tm_at "rkp") (by tm_at "rbx")
      · exact k p (.dn j) H4 (by tm_at "rfr") gp (show j < m by omega) (by tm_at "rkp") (by tm_at "rbx")
/-! ### _law_any_rows -/
theorem ok_f_law_any_rows {f : Addr} {fd : FuncData} (F : Fun K "_law_any_rows" "_law_any_rows" s_f_law_any_rows f fd)
    (D_f_law_take : Def P w K mg base CX0 "_law_take" 1 ["box", "wide"] (sp_f_law_take K))
    (D_f_law_row : Def P w K mg base CX0 "_law_row" 2 ["box", "boxes", "many"] (sp_f_law_row K))
    (m_range : mg "range" = none) :
    FnG P w K mg base CX0 3 f fd ["box", "boxes"] (sp_f_law_any_rows K) := by
  refine okG F sc_f_law_any_rows (fun vs H Q E h => ?_) (fun cdv A outer s H vs Q E hr h => ⟨_, (pss_cons (ps_set (i := 2) sc_f_law_any_rows.nd rfl (by first | exact Or.inl rfl | exact Or.inr rfl) (pe_op (op_gAdd (K := K) rfl) pe_int (pe_f D_f_law_take (hr.mono (by omega)) (by rfl) pass0 (pa_cons (pv 0) (pa_cons pe_int pa_nil)))))
    (pss_cons (ps_setLc (i := 3) rfl sc_f_law_any_rows.nd rfl rfl (sw_true rfl rfl rfl (by decide +kernel)) (pi_range1 (by rfl) m_range (pa_cons (pe_op op_sub (pv 2) pe_int) pa_nil)) (blkOk_by (own := [("k", 4)]) (N := ["box", "boxes", "many", "rows", "k"]) (sc := defScope s_f_law_any_rows) (by decide +kernel)) (fun _ _ _ _ _ => (pg_name (i := 4) sc_f_law_any_rows.nd rfl (by first | exact Or.inl rfl | exact Or.inr rfl))) (fun _ _ _ _ _ => pts_nil) (fun _ _ _ _ _ => (pe_f D_f_law_row (hr.mono (by omega)) (by rfl) pass0 (pa_cons (pv 0) (pa_cons (pv 1) (pa_cons (pv 2) pa_nil))))))
    (pss_one (ps_ret (pe_op (op_gAdd (K := K) rfl) (pv 3) (pe_lst (pa_cons (pe_ix (ix_g (K := K) rfl) (pe_lst (pa_cons (pe_tup (pa_cons pe_str pa_nil)) (pa_cons (pe_tup (pa_cons pe_str pa_nil)) (pa_cons (pe_tup (pa_cons pe_str (pa_cons (pe_f D_f_law_take (hr.mono (by omega)) (by rfl) pass0 (pa_cons (pv 0) (pa_cons (pv 2) pa_nil))) pa_nil))) pa_nil)))) (pe_f D_f_law_take (hr.mono (by omega)) (by rfl) pass0 (pa_cons (pv 0) (pa_cons pe_int pa_nil))) (fun _ _ => rfl)) pa_nil))))))), ?_⟩)
  · obtain ⟨_, _, rfl, _⟩ := h
    rfl
  · obtain ⟨b, m, rfl, hB, m1, m5, k⟩ := h
    try dsimp only [cxOf, Cx.nox, Cx.wish]
    change (_ : L2.TS) _ [some (.ref b), some (.int (m : Int)), none, none, none] _
    refine w_start ?_
    repeat' (tm_at "rs")
    rename_i n H1 n0 n1 k1 b1
    obtain ⟨n, rfl⟩ := Int.eq_ofNat_of_zero_le n0
    have en : (1 + (n : Int) - 1).toNat = n := by omega
    rw [en]
    refine lcR (fun D i H' => ∃ vs rs, H' D = some (.lst vs) ∧ RwsAt H' vs rs ∧ rs.length = i ∧ RwsOk m (1 + n) rs ∧ Kp b H1 H' ∧ BoxAt H' b) ?_ ?_ ?_
    · intro D H' nD sm hD
      exact ⟨[], [], hD, .nil, rfl, RwsOk.nil, by tm_at "rkp", by tm_at "rbx"⟩
    · rintro D i H' nD hi ⟨vs, rs, hD, hr, hl, ho, hk, hb⟩
      have hvl := paired_len hr
      repeat' (tm_at "rs")
      refine call_row (n := 1 + n) (by assumption) (by omega) (by omega) (by omega) (by omega) (fun p r H2 np gp ro k2 b2 => ?_)
      repeat' (tm_at "rs")
      rename_i H3 k3 g3
      have t2 : Tk H2 H3 := by tm_at "rtk"
      have t1 : Tk H' H3 := by tm_at "rtk"
      refine ⟨_, rs ++ [r], g3, paired_app (hr.tk t1) (.cons (rw_one (t2 _ _ gp)) .nil), by rw [List.length_append, hl]; rfl, ho.app (RwsOk.one ro), by tm_at "rkp", by tm_at "rbx"⟩
    · rintro D H2 nD ⟨vs, rs, hD, hr, hl, ho, hk, hb⟩
      have hvl := paired_len hr
      repeat' (tm_at "rs")
      rename_i s1 H3 n3 s3 g3 s2 H4 n4 s4 g4 g H5 g0 g1 k5 b5 s3' H6 n6 s6 g6 l1 H7 n7 s7 g7 t H8 t0 t1 k8 b8
      obtain ⟨g, rfl⟩ := Int.eq_ofNat_of_zero_le g0
      have a1 : Tk H3 H8 := by tm_at "rtk"
      have a2 : Tk H4 H8 := by tm_at "rtk"
      have a3 : Tk H6 H8 := by tm_at "rtk"
      refine w_ixP (fun x => ∃ r, RwAt H8 x r ∧ r.ok m (1 + n) ∧ r.ends) (.inl (by tm_at "rsq")) t0 (by show t < 3; omega) (all3 ⟨.st, rw_one (a1 _ _ g3), trivial, trivial⟩ ⟨.st, rw_one (a2 _ _ g4), trivial, trivial⟩ ⟨.go g, rw_one (a3 _ _ g6), (show g < 1 + n by omega), trivial⟩) (fun x hx => ?_)
      obtain ⟨r, hxr, ro, re⟩ := hx
      have hr8 : RwsAt H8 vs rs := hr.tk (by clear a1 a2 a3; tm_at "rtk")
      repeat' (tm_at "rs")
      rename_i q H9 nq sq gq q2 Ha nq2 sq2 gq2
      exact k _ _ (rs ++ [r]) _ (by tm_at "rfr") gq2 (paired_app (hr8.tk (Tk.trans (Tk.sm sq) (Tk.sm sq2))) (.cons (hxr.tk (Tk.trans (Tk.sm sq) (Tk.sm sq2))) .nil)) ⟨m1, m5, by rw [List.length_append, hl, Nat.add_comm]; exact ho.app (RwsOk.one ro), by rw [List.length_append, hl]; show n + 1 ≤ 14; omega, rs, r, rfl, re⟩ (by tm_at "rkp") (by tm_at "rbx")
/-! ### _law_some_program -/
theorem ok_f_law_some_program {f : Addr} {fd : FuncData} (F : Fun K "_law_some_program" "_law_some_program" s_f_law_some_program f fd)
    (D_f_law_take : Def P w K mg base CX0 "_law_take" 1 ["box", "wide"] (sp_f_law_take K))
    (D_f_law_ending_rows : Def P w K mg base CX0 "_law_ending_rows" 3 ["box", "boxes"] (sp_f_law_ending_rows K))
    (D_f_law_any_rows : Def P w K mg base CX0 "_law_any_rows" 3 ["box", "boxes"] (sp_f_law_any_rows K)) :
    FnG P w K mg base CX0 4 f fd ["box"] (sp_f_law_some_program K) := by
  refine okG F sc_f_law_some_program (fun vs H Q E h => ?_) (fun cdv A outer s H vs Q E hr h => ⟨_, (pss_cons (ps_set (i := 1) sc_f_law_some_program.nd rfl (by first | exact Or.inl rfl | exact Or.inr rfl) (pe_op (op_gAdd (K := K) rfl) pe_int (pe_f D_f_law_take (hr.mono (by omega)) (by rfl) pass0 (pa_cons (pv 0) (pa_cons pe_int pa_nil)))))
    (pss_cons (ps_if (pt_cmpR (op_gEq (K := K) rfl hr.units) (pe_f D_f_law_take (hr.mono (by omega)) (by rfl) pass0 (pa_cons (pv 0) (pa_cons pe_int pa_nil))) pe_int (nomark _)) (pss_one (ps_ret (pe_tup (pa_cons (pv 1) (pa_cons (pe_f D_f_law_any_rows (hr.mono (by omega)) (by rfl) pass0 (pa_cons (pv 0) (pa_cons (pv 1) pa_nil))) pa_nil))))) pss_nil)
    (pss_one (ps_ret (pe_tup (pa_cons (pv 1) (pa_cons (pe_f D_f_law_ending_rows (hr.mono (by omega)) (by rfl) pass0 (pa_cons (pv 0) (pa_cons (pv 1) pa_nil))) pa_nil))))))), ?_⟩)
  · obtain ⟨_, rfl, _⟩ := h
    rfl
  · obtain ⟨b, rfl, hB, k⟩ := h
    try dsimp only [cxOf, Cx.nox, Cx.wish]
    change (_ : L2.TS) _ [some (.ref b), none] _
    refine w_start ?_
    repeat' (tm_at "rs")
    · rename_i m H1 m0 m1 k1 b1 z H2 z0 z1 k2 b2 e
      obtain ⟨m, rfl⟩ := Int.eq_ofNat_of_zero_le m0
      refine call_anyRows (m := 1 + m) b2 (by omega) (by omega) (fun p vs rs H3 np gp hr hg k3 b3 => ?_)
      repeat' (tm_at "rs")
      rename_i q H4 nq sq gq
      exact k q p (1 + m) vs rs H4 (by tm_at "rfr") gq (sq _ _ gp) (hr.tk (Tk.sm sq)) hg (by tm_at "rkp") (by tm_at "rbx")
    · rename_i m H1 m0 m1 k1 b1 z H2 z0 z1 k2 b2 e
      obtain ⟨m, rfl⟩ := Int.eq_ofNat_of_zero_le m0
      refine call_endingRows (m := 1 + m) b2 (by omega) (by omega) (fun p vs rs H3 np gp hr hg k3 b3 => ?_)
      repeat' (tm_at "rs")
      rename_i q H4 nq sq gq
      exact k q p (1 + m) vs rs H4 (by tm_at "rfr") gq (sq _ _ gp) (hr.tk (Tk.sm sq)) hg (by tm_at "rkp") (by tm_at "rbx")
/-! ### _law_box -/
theorem ok_f_law_box {f : Addr} {fd : FuncData} (F : Fun K "_law_box" "_law_box" s_f_law_box f fd)
    (m_len : mg "len" = none)
    (m_int : mg "int" = none) :
    FnG P w K mg base CX0 1 f fd ["script", "k"] (sp_f_law_box K) := by
  refine okG F sc_f_law_box (fun vs H Q E h => ?_) (fun cdv A outer s H vs Q E hr h => ⟨_, (pss_cons (ps_set (i := 2) sc_f_law_box.nd rfl (by first | exact Or.inl rfl | exact Or.inr rfl) (pe_op (op_gAdd (K := K) rfl) (pe_op op_gMul pe_int (pv 1)) pe_int))
    (pss_cons (ps_if (pt_cmpR op_gLt (pv 1) (pe_callB (call_gLen (K := K) rfl) (by rfl) m_len PySem.boot_len (pa_cons (pv 0) pa_nil)) (nomark _)) (pss_one (ps_set (i := 2) sc_f_law_box.nd rfl (by first | exact Or.inl rfl | exact Or.inr rfl) (pe_ix (ix_g (K := K) rfl) (pv 0) (pv 1) (fun _ _ => rfl)))) (pss_one (ps_if (pt_cmpR op_gGt (pe_callB (call_gLen (K := K) rfl) (by rfl) m_len PySem.boot_len (pa_cons (pv 0) pa_nil)) pe_int (nomark _)) (pss_one (ps_set (i := 2) sc_f_law_box.nd rfl (by first | exact Or.inl rfl | exact Or.inr rfl) (pe_op (op_gAdd (K := K) rfl) (pv 2) (pe_op op_gMul (pe_op op_gMod (pe_ix (ix_g (K := K) rfl) (pv 0) (pe_op op_gMod (pv 1) (pe_callB (call_gLen (K := K) rfl) (by rfl) m_len PySem.boot_len (pa_cons (pv 0) pa_nil))) (fun _ _ => rfl)) pe_int) pe_int)))) pss_nil)))
    (pss_cons (ps_set (i := 3) sc_f_law_box.nd rfl (by first | exact Or.inl rfl | exact Or.inr rfl) (pe_op (op_gAdd (K := K) rfl) (pe_op op_gMod (pe_op (op_gAdd (K := K) rfl) (pe_op op_gMul (pe_op op_gMod (pv 2) pe_int) pe_int) (pe_op op_gMul pe_int (pv 1))) pe_int) pe_int))
    (pss_one (ps_ret (pe_lst (pa_cons (pe_ix (ix_g (K := K) rfl) (pe_lst (pa_cons pe_int (pa_cons (pv 2) pa_nil))) (pe_callTy call_gInt (by rfl) m_int PyProof.Rows.boot_int (pa_cons (pe_cmpR op_gGe (pv 2) (pe_op op_gPow pe_int pe_int) (nomark _)) pa_nil)) (fun _ _ => rfl)) (pa_cons (pv 3) pa_nil)))))))), ?_⟩)
  · obtain ⟨_, _, _, rfl, _⟩ := h
    rfl
  · obtain ⟨a, ns, i, rfl, hS, h0, h1, k⟩ := h
    try dsimp only [cxOf, Cx.nox, Cx.wish]
    change (_ : L2.TS) _ [some (.ref a), some (.int i), none, none] _
    refine w_start ?_
    have big : (0 : Int) ≤ 10 ^ Int.toNat 18 := by decide
    repeat' (tm_at "rs")
    · refine w_ixInts hS h0 (by assumption) (fun n _ => ?_)
      repeat' (tm_at "rs")
      all_goals refine k _ _ ?_ ?_ ⟨_, _, by assumption, by omega, by omega, by omega⟩
      all_goals tm_at "rz"
    · rename_i z z1 z2 z3 z4
      refine w_ixInts hS z2 z3 (fun n _ => ?_)
      repeat' (tm_at "rs")
      all_goals refine k _ _ ?_ ?_ ⟨_, _, by assumption, by omega, by omega, by omega⟩
      all_goals tm_at "rz"
    all_goals refine k _ _ ?_ ?_ ⟨_, _, by assumption, by omega, by omega, by omega⟩
    all_goals tm_at "rz"
/-! ### is_whole -/
theorem ok_f_is_whole {f : Addr} {fd : FuncData} (F : Fun K "is_whole" "is_whole" s_f_is_whole f fd)
    (m_isinstance : mg "isinstance" = none)
    (m_int : mg "int" = none)
    (m_bool : mg "bool" = none) :
    FnG P w K mg base CX0 1 f fd ["thing"] (sp_f_is_whole K) := by
  refine okG F sc_f_is_whole (fun vs H Q E h => ?_) (fun cdv A outer s H vs Q E hr h => ⟨_, (pss_one (ps_ret (pe_and (pe_callB (call_gIsi (K := K) rfl) (by rfl) m_isinstance PyProof.Rows.boot_isinstance (pa_cons (pv 0) (pa_cons (pe_bltn (v := .ty "int") (by rfl) m_int PyProof.Rows.boot_int rfl) pa_nil))) (pe_one (pe_not (pe_callB (call_gIsi (K := K) rfl) (by rfl) m_isinstance PyProof.Rows.boot_isinstance (pa_cons (pv 0) (pa_cons (pe_bltn (v := .ty "bool") (by rfl) m_bool PyProof.Rows.boot_bool rfl) pa_nil)))))))), ?_⟩)
  · obtain ⟨_, rfl, _⟩ := h
    rfl
  · obtain ⟨i, rfl, k⟩ := h
    try dsimp only [cxOf, Cx.nox, Cx.wish]
    change (_ : L2.TS) _ [some (.int i)] _
    refine w_start ?_
    repeat' (tm_at "rs")
    exact k _ (Same.refl _)
/-! ### is_formed -/
theorem ok_f_is_formed {f : Addr} {fd : FuncData} (F : Fun K "is_formed" "is_formed" s_f_is_formed f fd) {a_SHAPES : Addr}
    (D_f_is_whole : Def P w K mg base CX0 "is_whole" 1 ["thing"] (sp_f_is_whole K))
    (m_all : mg "all" = none)
    (m_len : mg "len" = none)
    (c_SHAPES : mg "SHAPES" = some (.ref a_SHAPES))
    (d_SHAPES : KDt K w a_SHAPES [(Str.ofString "raise", [Str.ofString "box"]), (Str.ofString "lower", [Str.ofString "box"]), (Str.ofString "if", [Str.ofString "box", Str.ofString "goal"]), (Str.ofString "go", [Str.ofString "goal"]), (Str.ofString "stop", [])]) :
    FnG P w K mg base CX0 2 f fd ["row"] (sp_f_is_formed K) := by
  refine okG F sc_f_is_formed (fun vs H Q E h => ?_) (fun cdv A outer s H vs Q E hr h => ⟨_, (pss_cons (ps_if (PW.pt (pw_or (pt_cmpR (op_gEq (K := K) rfl hr.units) (pe_callB (call_gLen (K := K) rfl) (by rfl) m_len PySem.boot_len (pa_cons (pv 0) pa_nil)) pe_int (nomark _)) (pw_or (pt_cmp (pc_niK (pe_ix (ix_g (K := K) rfl) (pv 0) pe_int (fun _ _ => rfl)) (pe_glob (v := .ref a_SHAPES) rfl c_SHAPES rfl))) (pw_or1 (pt_cmpR (op_gNe (K := K) rfl hr.units) (pe_callB (call_gLen (K := K) rfl) (by rfl) m_len PySem.boot_len (pa_cons (pv 0) pa_nil)) (pe_op (op_gAdd (K := K) rfl) pe_int (pe_callB (call_gLen (K := K) rfl) (by rfl) m_len PySem.boot_len (pa_cons (pe_kget (pe_glob (v := .ref a_SHAPES) rfl c_SHAPES rfl) (pe_ix (ix_g (K := K) rfl) (pv 0) pe_int (fun _ _ => rfl)) (fun _ _ => rfl)) pa_nil))) (nomark _)))))) (pss_one (ps_ret pe_bl)) pss_nil)
    (pss_one (ps_ret (pe_callB (cr_all rfl) (by rfl) m_all (by decide +kernel) (pa_cons (pe_lc (own := _) rfl sc_f_is_formed.nd (pi_gt (K := K) rfl (pe_slice (sl_gl (K := K) rfl) (pv 0) (po_some pe_int) po_none)) (blkOk_by (own := [("thing", 1)]) (N := ["row", "thing"]) (sc := defScope s_f_is_formed) (by decide +kernel)) (fun _ _ _ _ _ => (pg_name (i := 1) sc_f_is_formed.nd rfl (by first | exact Or.inl rfl | exact Or.inr rfl))) (fun _ _ _ _ _ => pts_nil) (fun _ _ _ _ _ => (pe_f D_f_is_whole (hr.mono (by omega)) (by rfl) pass0 (pa_cons (pv 1) pa_nil)))) pa_nil))))), ?_⟩)
  · obtain ⟨_, _, rfl, _⟩ := h
    rfl
  · obtain ⟨p, r, rfl, hp, k⟩ := h
    try dsimp only [cxOf, Cx.nox, Cx.wish]
    change (_ : L2.TS) _ [some (.ref p), none] _
    refine w_start ?_
    have hl : r.vs.length = 1 + (r.vs.drop 1).length := by cases r <;> rfl
    have hl2 : (r.vs.length : Int) ≠ 0 := by omega
    have hl3 : (r.vs.length : Int) = 1 + ((r.kinds.map V.str).length : Nat) := by cases r <;> rfl
    obtain ⟨zs, hz⟩ := r.vs_word
    have h0 : r.vs[0]? = some (.str r.word) := by rw [hz]; rfl
    repeat' (tm_at "rs")
    · rename_i e
      exact absurd e hl2
    refine w_ixT (st_of hp) (atI_nat (j := 0) h0) ?_
    repeat' (tm_at "rs")
    refine w_nieT d_SHAPES (Rw.shp r) ?_
    repeat' (tm_at "rs")
    refine w_ixT (st_of hp) (atI_nat (j := 0) h0) ?_
    repeat' (tm_at "rs")
    refine w_kge d_SHAPES (Rw.shp r) (fun t ht => ?_)
    repeat' (tm_at "rs")
    · rename_i e
      exact absurd hl3 e
    rename_i e1 e2 q H1 s1 g1
    rw [cut_lo (by decide)] at g1
    have hti := r.tail_int
    have hxl : (r.vs.drop (1 : Int).toNat).length ≤ 10 := by cases r <;> exact Nat.le_of_ble_eq_true rfl
    refine lcTp (xs := r.vs.drop (1 : Int).toNat) (fun D i H' => H' D = some (.lst ((List.replicate i true).map V.bl)) ∧ Sm H1 H') ?_ ?_ ?_ ?_
    · exact fun D H' nD sm hD => ⟨hD, sm⟩
    · exact fun D i H' nD hi h => st_of (h.2 _ _ g1)
    · rintro D i x H' nD hx ⟨hD, hs⟩
      obtain ⟨n, rfl⟩ := hti x (List.mem_of_getElem? hx)
      have hi := (List.getElem?_eq_some_iff.mp hx).1
      have hil : ((List.replicate i true).map V.bl).length ≤ 100 := by rw [List.length_map, List.length_replicate]; omega
      repeat' (tm_at "rs")
      rename_i H2 s2 H3 k3 g3
      exact ⟨by rw [List.replicate_succ', List.map_append]; exact g3, by tm_at "rsm"⟩
    · rintro D H' nD ⟨hD, hs⟩
      repeat' (tm_at "rs")
      rw [show (List.replicate (r.vs.drop (1 : Int).toNat).length true).all id = true by simp]
      exact k _ (by tm_at "rsm")
/-! ### check_row -/
theorem ok_f_check_row {f : Addr} {fd : FuncData} (F : Fun K "check_row" "check_row" s_f_check_row f fd) {a_SHAPES : Addr}
    (D_f_is_formed : Def P w K mg base CX0 "is_formed" 2 ["row"] (sp_f_is_formed K))
    (m_zip : mg "zip" = none)
    (m_int : mg "int" = none)
    (c_SHAPES : mg "SHAPES" = some (.ref a_SHAPES))
    (d_SHAPES : KDt K w a_SHAPES [(Str.ofString "raise", [Str.ofString "box"]), (Str.ofString "lower", [Str.ofString "box"]), (Str.ofString "if", [Str.ofString "box", Str.ofString "goal"]), (Str.ofString "go", [Str.ofString "goal"]), (Str.ofString "stop", [])]) :
    FnG P w K mg base CX0 3 f fd ["row", "boxes", "many", "at"] (sp_f_check_row K) := by
  refine okG F sc_f_check_row (fun vs H Q E h => ?_) (fun cdv A outer s H vs Q E hr h => ⟨_, (pss_cons (ps_if (pt_not (pt_val (pe_f D_f_is_formed (hr.mono (by omega)) (by rfl) pass0 (pa_cons (pv 0) pa_nil)))) (pss_one ps_never) pss_nil)
    (pss_one (ps_for PassesOwn.never rfl (pi_zipS (by rfl) m_zip (pa_cons (pe_kget (pe_glob (v := .ref a_SHAPES) rfl c_SHAPES rfl) (pe_ix (ix_g (K := K) rfl) (pv 0) pe_int (fun _ _ => rfl)) (fun _ _ => rfl)) (pa_cons (pe_slice (sl_gl (K := K) rfl) (pv 0) (po_some pe_int) po_none) pa_nil)) (pk_cons pe_bl pk_nil)) (pg_gt (K := K) (n := 2) rfl rfl (pgs_cons (pg_name (i := 4) sc_f_check_row.nd rfl (by first | exact Or.inl rfl | exact Or.inr rfl)) (pgs_cons (pg_name (i := 5) sc_f_check_row.nd rfl (by first | exact Or.inl rfl | exact Or.inr rfl)) pgs_nil))) (pss_one (ps_if (pt_not (pt_chain op_gLe op_gLt pe_int (pv 5) (pe_ix (ix_g (K := K) rfl) (pe_lst (pa_cons (pv 1) (pa_cons (pv 2) pa_nil))) (pe_callTy call_gInt (by rfl) m_int PyProof.Rows.boot_int (pa_cons (pe_cmpR (op_gEq (K := K) rfl hr.units) (pv 4) pe_str (nomark _)) pa_nil)) (fun _ _ => rfl)))) (pss_one ps_never) pss_nil))))), ?_⟩)
  · obtain ⟨_, _, _, _, _, rfl, _⟩ := h
    rfl
  · obtain ⟨p, r, m, n, t, rfl, hp, ho, k⟩ := h
    try dsimp only [cxOf, Cx.nox, Cx.wish]
    change (_ : L2.TS) _ [some (.ref p), some (.int (m : Nat)), some (.int (n : Nat)), some (.int (t : Nat)), none, none] _
    refine w_start ?_
    obtain ⟨zs, hz⟩ := r.vs_word
    have h0 : r.vs[0]? = some (.str r.word) := by rw [hz]; rfl
    repeat' (tm_at "rs")
    refine call_isFormed hp (fun H1 s1 => ?_)
    have hp1 := s1 _ _ hp
    repeat' (tm_at "rs")
    refine w_ixT (st_of hp1) (atI_nat (j := 0) h0) ?_
    repeat' (tm_at "rs")
    refine w_kgA d_SHAPES (Rw.shp r) (fun t2 ht => ?_)
    repeat' (tm_at "rs")
    rename_i q H2 s2 g2
    rw [cut_lo (by decide)] at g2
    refine w_iZSe (ht _) (st_of g2) ?_
    have el : (r.kinds.map V.str).length = (r.vs.drop (1 : Int).toNat).length := by cases r <;> rfl
    refine loopZS el (fun i σ' H' => ∃ (x4 x5 : Option V), σ' = [some (.ref p), some (.int (m : Nat)), some (.int (n : Nat)), some (.int (t : Nat)), x4, x5] ∧ Sm H2 H') ⟨_, _, rfl, Same.refl _⟩ ?_ ?_ ?_
    · rintro i σ' H' hi ⟨x4, x5, rfl, hs⟩
      exact ⟨ht _, st_of (hs _ _ g2)⟩
    · rintro i x y T σ' Ha Hb hi hx hy ⟨x4, x5, rfl, hs⟩ nT sT gT
      obtain ⟨ks, nn, rfl, rfl, hok⟩ : ∃ (ks : Str) (nn : Nat), x = .str ks ∧ y = .int (nn : Nat) ∧ ((ks = "goal" ∧ nn < n) ∨ (ks ≠ "goal" ∧ nn < m)) := by
        cases r
        all_goals
          rcases i with _ | _ | i
        all_goals first
          | (exfalso; cases hx; done)
          | (cases hx; cases hy; first | exact ⟨_, _, rfl, rfl, .inr ⟨by decide, ho⟩⟩ | exact ⟨_, _, rfl, rfl, .inl ⟨rfl, ho⟩⟩ | exact ⟨_, _, rfl, rfl, .inr ⟨by decide, ho.1⟩⟩ | exact ⟨_, _, rfl, rfl, .inl ⟨rfl, ho.2⟩⟩)
      repeat' (tm_at "rs")
      all_goals first
        | exact ⟨_, _, rfl, by tm_at "rsm"⟩
        | (exfalso; rcases hok with ⟨h3, h4⟩ | ⟨h3, h4⟩ <;> first | omega | (apply h3; assumption) | (rename_i h1 h2; exact h1 h3))
        | (exfalso; omega)
    · rintro σ' H' ⟨x4, x5, rfl, hs⟩
      repeat' (tm_at "rs")
      exact k _ (by tm_at "rsm")
/-! ### check -/
theorem ok_f_check {f : Addr} {fd : FuncData} (F : Fun K "check" "check" s_f_check f fd) {t_MOST_BOXES : Tok} {t_MOST_ROWS : Tok}
    (D_f_check_row : Def P w K mg base CX0 "check_row" 3 ["row", "boxes", "many", "at"] (sp_f_check_row K))
    (m_enumerate : mg "enumerate" = none)
    (m_len : mg "len" = none)
    (c_MOST_BOXES : mg "MOST_BOXES" = some (.int 5 t_MOST_BOXES))
    (c_MOST_ROWS : mg "MOST_ROWS" = some (.int 14 t_MOST_ROWS)) :
    FnG P w K mg base CX0 4 f fd ["boxes", "rows"] (sp_f_check K) := by
  refine okG F sc_f_check (fun vs H Q E h => ?_) (fun cdv A outer s H vs Q E hr h => ⟨_, (pss_cons (ps_if (pt_not (pt_chain op_gLe op_gLe pe_int (pv 0) (pe_glob (v := .int 5) rfl c_MOST_BOXES ⟨_, rfl⟩))) (pss_one ps_never) pss_nil)
    (pss_cons (ps_if (pt_not (pt_chain op_gLe op_gLe pe_int (pe_callB (call_gLen (K := K) rfl) (by rfl) m_len PySem.boot_len (pa_cons (pv 1) pa_nil)) (pe_glob (v := .int 14) rfl c_MOST_ROWS ⟨_, rfl⟩))) (pss_one ps_never) pss_nil)
    (pss_cons (ps_for PassesOwn.never rfl (pi_or (pi_enum (by rfl) m_enumerate (pa_cons (pv 1) pa_nil)) (pi_enT (by rfl) m_enumerate (pa_cons (pv 1) pa_nil))) (pg_gt (K := K) (n := 2) rfl rfl (pgs_cons (pg_name (i := 2) sc_f_check.nd rfl (by first | exact Or.inl rfl | exact Or.inr rfl)) (pgs_cons (pg_name (i := 3) sc_f_check.nd rfl (by first | exact Or.inl rfl | exact Or.inr rfl)) pgs_nil))) (pss_one (ps_expr (pe_f D_f_check_row (hr.mono (by omega)) (by rfl) pass0 (pa_cons (pv 3) (pa_cons (pv 0) (pa_cons (pe_callB (call_gLen (K := K) rfl) (by rfl) m_len PySem.boot_len (pa_cons (pv 1) pa_nil)) (pa_cons (pv 2) pa_nil))))))))
    (pss_one (ps_if (pt_cmpR (op_gNotInSeq (K := K) rfl) (pe_ix (ix_g (K := K) rfl) (pe_ix (ix_g (K := K) rfl) (pv 1) (pe_un un_neg pe_int) (fun _ _ => rfl)) pe_int (fun _ _ => rfl)) (pe_tup (pa_cons pe_str (pa_cons pe_str pa_nil))) (by rfl)) (pss_one ps_never) pss_nil))))), ?_⟩)
  · obtain ⟨_, _, _, _, rfl, _⟩ := h
    rfl
  · obtain ⟨m, a, us, rs, rfl, ha, hr, hp, k⟩ := h
    try dsimp only [cxOf, Cx.nox, Cx.wish]
    change (_ : L2.TS) _ [some (.int (m : Nat)), some (.ref a), none, none] _
    refine w_start ?_
    have hl := paired_len hr
    obtain ⟨b1, b5, ok, len, us0, r0, hfin, hend⟩ := id hp
    have hpos := hp.pos
    rcases ha with ha | ha
    · repeat' (tm_at "rs")
      · omega
      · omega
      · refine .inl ?_
        repeat' (tm_at "rs")
        refine loopEn (xs := us) (fun i σ' H' => ∃ (x2 x3 : Option V), σ' = [some (.int (m : Nat)), some (.ref a), x2, x3] ∧ Sm H H') ⟨_, _, rfl, Same.refl _⟩ ?_ ?_ ?_
        · rintro i σ' H' hi ⟨x2, x3, rfl, hs⟩
          exact sq_of (hs _ _ ha)
        · rintro i x T σ' H1 H2 hi hx ⟨x2, x3, rfl, hs⟩ nT sT gT
          obtain ⟨r, hr1, p, rfl, hpr⟩ := paired_get hr hx
          have hpr2 := sT _ _ (hs _ _ hpr)
          repeat' (tm_at "rs")
          refine call_checkRow hpr2 (by rw [hl]; exact ok r (List.mem_of_getElem? hr1)) (fun H3 s3 => ?_)
          repeat' (tm_at "rs")
          exact ⟨_, _, rfl, by tm_at "rsm"⟩
        · rintro σ' H1 ⟨x2, x3, rfl, hs⟩
          have hr1 := hr.tk (Tk.sm hs)
          rw [hfin] at hr1
          obtain ⟨us1, x, e, hr2, p, rfl, hpr⟩ := paired_last hr1
          have ha1 := hs _ _ ha
          rw [e] at ha1
          obtain ⟨zs, hz⟩ := r0.vs_word
          repeat' (tm_at "rs")
          refine w_ixL' (sq_of ha1) (atI_last _ _) ?_
          repeat' (tm_at "rs")
          refine w_ixT (st_of hpr) (atI_nat (j := 0) (by rw [hz]; rfl)) ?_
          repeat' (tm_at "rs")
          · rename_i hh
            exfalso
            apply hh
            cases r0 <;> first | exact hend.elim | exact .inl rfl | exact .inr rfl
          · exact k _ (by tm_at "rsm")
      · omega
      · omega
    · repeat' (tm_at "rs")
      · omega
      · omega
      · refine .inr ?_
        repeat' (tm_at "rs")
        refine loopEt (xs := us) (fun i σ' H' => ∃ (x2 x3 : Option V), σ' = [some (.int (m : Nat)), some (.ref a), x2, x3] ∧ Sm H H') ⟨_, _, rfl, Same.refl _⟩ ?_ ?_ ?_
        · rintro i σ' H' hi ⟨x2, x3, rfl, hs⟩
          exact st_of (hs _ _ ha)
        · rintro i x T σ' H1 H2 hi hx ⟨x2, x3, rfl, hs⟩ nT sT gT
          obtain ⟨r, hr1, p, rfl, hpr⟩ := paired_get hr hx
          have hpr2 := sT _ _ (hs _ _ hpr)
          repeat' (tm_at "rs")
          refine call_checkRow hpr2 (by rw [hl]; exact ok r (List.mem_of_getElem? hr1)) (fun H3 s3 => ?_)
          repeat' (tm_at "rs")
          exact ⟨_, _, rfl, by tm_at "rsm"⟩
        · rintro σ' H1 ⟨x2, x3, rfl, hs⟩
          have hr1 := hr.tk (Tk.sm hs)
          rw [hfin] at hr1
          obtain ⟨us1, x, e, hr2, p, rfl, hpr⟩ := paired_last hr1
          have ha1 := hs _ _ ha
          rw [e] at ha1
          obtain ⟨zs, hz⟩ := r0.vs_word
          repeat' (tm_at "rs")
          refine w_ixT (st_of ha1) (atI_last _ _) ?_
          repeat' (tm_at "rs")
          refine w_ixT (st_of hpr) (atI_nat (j := 0) (by rw [hz]; rfl)) ?_
          repeat' (tm_at "rs")
          · rename_i hh
            exfalso
            apply hh
            cases r0 <;> first | exact hend.elim | exact .inl rfl | exact .inr rfl
          · exact k _ (by tm_at "rsm")
      · omega
      · omega
/-! ### Program.__init__ -/
theorem ok_f_Program__init {f : Addr} {fd : FuncData} (F : Fun K "__init__" "Program.__init__" s_f_Program__init f fd)
    (D_f_check : Def P w K mg base CX0 "check" 4 ["boxes", "rows"] (sp_f_check K))
    (m_tuple : mg "tuple" = none) :
    FnG P w K mg base CX0 5 f fd ["self", "boxes", "rows"] (sp_f_Program__init K) := by
  refine okG F sc_f_Program__init (fun vs H Q E h => ?_) (fun cdv A outer s H vs Q E hr h => ⟨_, (pss_cons (ps_expr (pe_f D_f_check (hr.mono (by omega)) (by rfl) pass0 (pa_cons (pv 1) (pa_cons (pv 2) pa_nil))))
    (pss_cons (ps_fld (pv 0) (pv 1) rfl)
    (pss_one (ps_fld (pv 0) (pe_callTy (call_gTuple (K := K) rfl) (by rfl) m_tuple PyProof.Rows.boot_tuple (pa_cons (pv 2) pa_nil)) rfl)))), ?_⟩)
  · obtain ⟨_, _, _, _, _, _, _, rfl, _⟩ := h
    rfl
  · obtain ⟨p, C, dx, m, a, us, rs, rfl, hp, hC, ha, hr, hg, k⟩ := h
    try dsimp only [cxOf, Cx.nox, Cx.wish]
    change (_ : L2.TS) _ [some (.ref p), some (.int (m : Nat)), some (.ref a)] _
    refine w_start ?_
    rcases ha with ha | ha
    · repeat' (tm_at "rs")
      refine call_check ha hr hg (fun H1 s1 => ?_)
      have hp1 := s1 _ _ hp
      have ha1 := s1 _ _ ha
      repeat' (tm_at "rs")
      refine w_sfldE hp1 hC.cl (hC.na _ (by simp)) (by show 0 < 1000; decide) (fun H2 k2 g2 => ?_)
      have ha2 : H2 a = some (.lst us) := k2 _ _ (ne_of ha1 hp1 (by intro z; cases z)) ha1
      repeat' (tm_at "rs")
      rename_i t H3 nt st gt
      refine w_sfldE (st _ _ g2) hC.cl (hC.na _ (by simp)) (by show 1 < 1000; decide) (fun H4 k4 g4 => ?_)
      repeat' (tm_at "rs")
      refine k _ t (Kp.trans (Kp.of s1) (Kp.trans k2 (Kp.trans (Kp.of st) k4))) g4 (k4 _ _ ?_ gt)
      exact ne_of gt (st _ _ g2) (by intro z; cases z)
    · repeat' (tm_at "rs")
      refine call_checkT ha hr hg (fun H1 s1 => ?_)
      have hp1 := s1 _ _ hp
      have ha1 := s1 _ _ ha
      repeat' (tm_at "rs")
      refine w_sfldE hp1 hC.cl (hC.na _ (by simp)) (by show 0 < 1000; decide) (fun H2 k2 g2 => ?_)
      have ha2 : H2 a = some (.tup us) := k2 _ _ (ne_of ha1 hp1 (by intro z; cases z)) ha1
      repeat' (tm_at "rs")
      refine ⟨a, us, rfl, .inr ⟨st_of ha2, ?_⟩⟩
      repeat' (tm_at "rs")
      refine w_sfldE g2 hC.cl (hC.na _ (by simp)) (by show 1 < 1000; decide) (fun H4 k4 g4 => ?_)
      repeat' (tm_at "rs")
      refine k _ a (Kp.trans (Kp.of s1) (Kp.trans k2 k4)) g4 (k4 _ _ ?_ ha2)
      exact ne_of ha2 g2 (by intro z; cases z)
/-! ### _law_asked -/
theorem ok_f_law_asked {f : Addr} {fd : FuncData} (F : Fun K "_law_asked" "_law_asked" s_f_law_asked f fd)
    (m_range : mg "range" = none)
    (m_enumerate : mg "enumerate" = none) :
    FnG P w K mg base CX0 1 f fd ["boxes", "rows"] (sp_f_law_asked K) := by
  refine okG F sc_f_law_asked (fun vs H Q E h => ?_) (fun cdv A outer s H vs Q E hr h => ⟨_, (pss_cons (ps_set (i := 2) sc_f_law_asked.nd rfl (by first | exact Or.inl rfl | exact Or.inr rfl) (pe_lst pa_nil))
    (pss_cons (ps_for PassesOwn.never rfl (pi_range1 (by rfl) m_range (pa_cons (pv 0) pa_nil)) (pg_name (i := 3) sc_f_law_asked.nd rfl (by first | exact Or.inl rfl | exact Or.inr rfl)) (pss_one (ps_if (pt_cmpR (op_gNe (K := K) rfl hr.units) (pe_lc (own := _) rfl sc_f_law_asked.nd (pi_enum (by rfl) m_enumerate (pa_cons (pv 1) pa_nil)) (blkOk_by (own := [("k", 4), ("row", 5)]) (N := ["boxes", "rows", "found", "j", "k", "row"]) (sc := defScope s_f_law_asked) (by decide +kernel)) (fun _ _ _ _ _ => (pg_gt (K := K) (n := 2) rfl rfl (pgs_cons (pg_name (i := 4) sc_f_law_asked.nd rfl (by first | exact Or.inl rfl | exact Or.inr rfl)) (pgs_cons (pg_name (i := 5) sc_f_law_asked.nd rfl (by first | exact Or.inl rfl | exact Or.inr rfl)) pgs_nil)))) (fun _ _ _ _ _ => pts_one (PW.pt (pw_and (pt_cmpR (op_gEq (K := K) rfl hr.units) (pe_slice (sl_gl (K := K) rfl) (pv 5) po_none (po_some pe_int)) (pe_tup (pa_cons pe_str (pa_cons (pv 3) pa_nil))) (nomark _)) (pw_and1 (pt_cmpR (op_gNe (K := K) rfl hr.units) (pe_ix (ix_g (K := K) rfl) (pv 5) pe_int (fun _ _ => rfl)) (pe_op (op_gAdd (K := K) rfl) (pv 4) pe_int) (nomark _)))))) (fun _ _ _ _ _ => (pv 4))) (pe_lst pa_nil) (nomark _)) (pss_one (ps_expr (pe_gbm (K := K) rfl PySem.F.plainAttrs_list PySem.F.slot_list_append PySem.F.type_list_append mt_append (pv 2) (pa_cons (pv 3) pa_nil)))) pss_nil)))
    (pss_one (ps_ret (pv 2))))), ?_⟩)
  · obtain ⟨_, _, _, _, rfl, _⟩ := h
    rfl
  · obtain ⟨m, p, us, rs, rfl, hp, hR, hm, hl, k⟩ := h
    try dsimp only [cxOf, Cx.nox, Cx.wish]
    change (_ : L2.TS) _ [some (.int (m : Nat)), some (.ref p), none, none, none, none] _
    refine w_start ?_
    repeat' (tm_at "rs")
    rename_i D H1 nD s1 gD
    have hp1 := s1 _ _ hp
    have nDp : p ≠ D := ne_of_none hp nD
    have hul : us.length = rs.length := paired_len hR
    refine loopR (fun j σ' H' => ∃ (x4 x5 x3 : Option V), σ' = [some (.int (m : Nat)), some (.ref p), some (.ref D), x3, x4, x5] ∧ Kp D H1 H' ∧ H' D = some (.lst (nV ((List.range j).filter fun j => askB rs j rs.length)))) ?_ ?_ ?_
    · exact ⟨_, _, _, rfl, Kp.refl _, gD⟩
    · rintro j σ' H' hj ⟨x4, x5, x3, rfl, hk, hD⟩
      have hpj := hk _ _ nDp hp1
      have tkj : Tk H1 H' := Tk.kp gD hk
      have hRj : RwsAt H' us rs := hR.tk ((Tk.sm s1).trans tkj)
      have hfl : ((List.range j).filter fun j => askB rs j rs.length).length ≤ 10 := by
        have := List.length_filter_le (fun j => askB rs j rs.length) (List.range j)
        rw [List.length_range] at this
        omega
      have hnl : (nV ((List.range j).filter fun j => askB rs j rs.length)).length ≤ 10 := by rw [nV_len]; exact hfl
      repeat' (tm_at "rs")
      refine lcEn (xs := us) (fun L i H2 => H2 L = some (.lst (nV ((List.range i).filter fun k => isAsk rs j k))) ∧ Sm H' H2) ?_ ?_ ?_ ?_
      · exact fun L H2 nL sm hL => ⟨hL, sm⟩
      · exact fun L i H2 nL hi h => sq_of (h.2 _ _ hpj)
      · rintro L i x T H2 H3 nL hi hx ⟨hL, hs⟩ nT sT gT
        obtain ⟨r, hri, q, rfl, hq⟩ := paired_get hRj hx
        have hq3 := sT _ _ (hs _ _ hq)
        have hL3 := sT _ _ hL
        have hll : (nV ((List.range i).filter fun k => isAsk rs j k)).length ≤ 100 := by
          rw [nV_len]
          have := List.length_filter_le (fun k => isAsk rs j k) (List.range i)
          rw [List.length_range] at this
          omega
        repeat' (tm_at "rs")
        rename_i b1 H4 s4 g4 b2 H5 n5 s5 g5
        have g5' : H5 b2 = some (.tup [.str "if", .int (j : Int)]) := by
          rw [Int.zero_add] at g5
          exact g5
        have hL5 := (s4.trans s5) _ _ hL3
        have hq5 := (s4.trans s5) _ _ hq3
        have s25 := sT.trans (s4.trans s5)
        refine w_eqAsk (s5 _ _ g4) g5' (fun c hc => ?_)
        rcases r with j' | j' | ⟨j', g'⟩ | g' | _
        · obtain rfl : c = false := hc
          repeat' (tm_at "rs")
          refine ⟨?_, hs.trans s25⟩
          rw [flt_succ, isAsk_no hri (by intro i g z; cases z), if_neg Bool.false_ne_true, List.append_nil]
          exact hL5
        · obtain rfl : c = false := hc
          repeat' (tm_at "rs")
          refine ⟨?_, hs.trans s25⟩
          rw [flt_succ, isAsk_no hri (by intro i g z; cases z), if_neg Bool.false_ne_true, List.append_nil]
          exact hL5
        · obtain rfl : c = decide (j' = j) := hc
          have hq6 : H5 q = some (.tup [.str "if", .int (j' : Int), .int (g' : Int)]) := hq5
          clear hq5
          repeat' (tm_at "rs")
          · rename_i e1 e2 H6 k6 g6
            refine ⟨?_, by tm_at "rsm"⟩
            rw [flt_succ, isAsk_br hri, decide_eq_true e1, decide_eq_true (p := g' ≠ i + 1) (by omega)]
            show H6 L = some (.lst (nV ((List.range i).filter (fun k => isAsk rs j k) ++ [i])))
            rw [nV_app]
            exact g6
          · rename_i e1 e2
            refine ⟨?_, hs.trans s25⟩
            rw [flt_succ, isAsk_br hri, decide_eq_false (p := g' ≠ i + 1) (by omega), Bool.and_false, if_neg Bool.false_ne_true, List.append_nil]
            exact hL5
          · rename_i e1
            refine ⟨?_, hs.trans s25⟩
            rw [flt_succ, isAsk_br hri, decide_eq_false e1, Bool.false_and, if_neg Bool.false_ne_true, List.append_nil]
            exact hL5
        · obtain rfl : c = false := hc
          repeat' (tm_at "rs")
          refine ⟨?_, hs.trans s25⟩
          rw [flt_succ, isAsk_no hri (by intro i g z; cases z), if_neg Bool.false_ne_true, List.append_nil]
          exact hL5
        · obtain rfl : c = false := hc
          repeat' (tm_at "rs")
          refine ⟨?_, hs.trans s25⟩
          rw [flt_succ, isAsk_no hri (by intro i g z; cases z), if_neg Bool.false_ne_true, List.append_nil]
          exact hL5
      · rintro L H2 nL ⟨hL, hs⟩
        rw [hul] at hL
        have hD2 := hs _ _ hD
        repeat' (tm_at "rs")
        · rename_i L2 H3 n3 s3 g3 e H4 k4 g4
          refine ⟨_, _, _, rfl, Kp.trans hk (Kp.trans (Kp.of (hs.trans s3)) k4), ?_⟩
          rw [flt_succ, if_pos (ask_ne.mp e), nV_app]
          rw [Int.zero_add] at g4
          exact g4
        · rename_i L2 H3 n3 s3 g3 e
          refine ⟨_, _, _, rfl, Kp.trans hk (Kp.of (hs.trans s3)), ?_⟩
          rw [flt_succ, if_neg (fun z => e (ask_ne.mpr z)), List.append_nil]
          exact s3 _ _ hD2
    · rintro σ' H' ⟨x4, x5, x3, rfl, hk, hD⟩
      repeat' (tm_at "rs")
      have sm := sm_mut s1 nD hk
      exact k D H' nD sm (by rw [Int.toNat_natCast] at hD; exact hD)
/-! ### _law_named -/
theorem ok_f_law_named {f : Addr} {fd : FuncData} (F : Fun K "_law_named" "_law_named" s_f_law_named f fd)
    (m_str : mg "str" = none) :
    FnG P w K mg base CX0 1 f fd ["letter", "numbers"] (sp_f_law_named K) := by
  refine okG F sc_f_law_named (fun vs H Q E h => ?_) (fun cdv A outer s H vs Q E hr h => ⟨_, (pss_one (ps_ret (pe_lc (own := _) rfl sc_f_law_named.nd (pi_gl (K := K) rfl (pv 1)) (blkOk_by (own := [("k", 2)]) (N := ["letter", "numbers", "k"]) (sc := defScope s_f_law_named) (by decide +kernel)) (fun _ _ _ _ _ => (pg_name (i := 2) sc_f_law_named.nd rfl (by first | exact Or.inl rfl | exact Or.inr rfl))) (fun _ _ _ _ _ => pts_nil) (fun _ _ _ _ _ => (pe_tup (pa_cons pe_str (pa_cons (pe_op (op_gAdd (K := K) rfl) (pv 0) (pe_callTy call_gStrN (by rfl) m_str PyProof.Rows.boot_str (pa_cons (pv 2) pa_nil))) pa_nil))))))), ?_⟩)
  · obtain ⟨_, _, _, rfl, _⟩ := h
    rfl
  · obtain ⟨c, p, l, rfl, hp, hl, hn, hc, k⟩ := h
    try dsimp only [cxOf, Cx.nox, Cx.wish]
    change (_ : L2.TS) _ [some (.str c), some (.ref p), none] _
    refine w_start ?_
    repeat' (tm_at "rs")
    refine lcLs (xs := nV l) (fun D i H' => ∃ xs, H' D = some (.lst xs) ∧ TmsAt K H' xs ((l.take i).map fun j => .name (nmS c j)) ∧ Sm H H') ?_ ?_ ?_ ?_
    · exact fun D H' nD sm hD => ⟨[], hD, .nil, sm⟩
    · rintro D i H' nD hi ⟨xs, hD, hx, sm⟩
      exact sq_of (sm _ _ hp)
    · rintro D i x H' nD hi ⟨xs, hD, hx, sm⟩
      obtain ⟨n, hln, rfl⟩ := nV_gt hi
      have h1 := hn n (List.mem_of_getElem? hln)
      have hil := (List.getElem?_eq_some_iff.mp hln).1
      have htk : l.take (i + 1) = l.take i ++ [n] := by rw [List.take_succ, hln]; rfl
      have hx100 : xs.length ≤ 100 := by
        have := hx.len
        rw [List.length_map, List.length_take] at this
        omega
      repeat' (tm_at "rs")
      rename_i q H2 nq sq gq H3 k3 g3
      have hD2 := sq _ _ hD
      refine ⟨_, g3, ?_, by tm_at "rsm"⟩
      rw [htk, List.map_append]
      exact ((TmsAt.sm hx sq).one (tm_name gq)).kpL hD2 k3
    · rintro D H' nD ⟨xs, hD, hx, sm⟩
      rw [nV_len, List.take_length] at hx
      exact k D xs H' nD sm hD hx
/-! ### _law_row_sayings -/
theorem ok_f_law_row_sayings {f : Addr} {fd : FuncData} (F : Fun K "_law_row_sayings" "_law_row_sayings" s_f_law_row_sayings f fd)
    (m_str : mg "str" = none) :
    FnG P w K mg base CX0 1 f fd ["rows", "k", "done", "left"] (sp_f_law_row_sayings K) := by
  refine okG F sc_f_law_row_sayings (fun vs H Q E h => ?_) (fun cdv A outer s H vs Q E hr h => ⟨_, (pss_cons (ps_set (i := 4) sc_f_law_row_sayings.nd rfl (by first | exact Or.inl rfl | exact Or.inr rfl) (pe_ix (ix_g (K := K) rfl) (pv 0) (pv 1) (fun _ _ => rfl)))
    (pss_cons (ps_if (pt_cmpR (op_gEq (K := K) rfl hr.units) (pe_ix (ix_g (K := K) rfl) (pv 4) pe_int (fun _ _ => rfl)) pe_str (nomark _)) (pss_one (ps_ret (pe_lst pa_nil))) pss_nil)
    (pss_cons (ps_if (pt_cmpR (op_gEq (K := K) rfl hr.units) (pe_ix (ix_g (K := K) rfl) (pv 4) pe_int (fun _ _ => rfl)) pe_str (nomark _)) (pss_one (ps_ret (pe_lst (pa_cons (pe_tup (pa_cons pe_str (pa_cons (pv 3) (pa_cons (pe_ix (ix_g (K := K) rfl) (pv 2) (pe_ix (ix_g (K := K) rfl) (pv 4) pe_int (fun _ _ => rfl)) (fun _ _ => rfl)) pa_nil)))) pa_nil)))) pss_nil)
    (pss_cons (ps_if (PW.pt (pw_or (pt_cmpR (op_gNe (K := K) rfl hr.units) (pe_ix (ix_g (K := K) rfl) (pv 4) pe_int (fun _ _ => rfl)) pe_str (nomark _)) (pw_or1 (pt_cmpR (op_gEq (K := K) rfl hr.units) (pe_ix (ix_g (K := K) rfl) (pv 4) pe_int (fun _ _ => rfl)) (pe_op (op_gAdd (K := K) rfl) (pv 1) pe_int) (nomark _))))) (pss_one (ps_ret (pe_lst (pa_cons (pe_tup (pa_cons pe_str (pa_cons (pv 3) (pa_cons (pe_ix (ix_g (K := K) rfl) (pv 2) (pe_op (op_gAdd (K := K) rfl) (pv 1) pe_int) (fun _ _ => rfl)) pa_nil)))) pa_nil)))) pss_nil)
    (pss_cons (ps_set (i := 5) sc_f_law_row_sayings.nd rfl (by first | exact Or.inl rfl | exact Or.inr rfl) (pe_tup (pa_cons pe_str (pa_cons (pe_op (op_gAdd (K := K) rfl) pe_str (pe_callTy call_gStrN (by rfl) m_str PyProof.Rows.boot_str (pa_cons (pe_ix (ix_g (K := K) rfl) (pv 4) pe_int (fun _ _ => rfl)) pa_nil))) pa_nil))))
    (pss_one (ps_ret (pe_lst (pa_cons (pe_tup (pa_cons pe_str (pa_cons (pv 3) (pa_cons (pe_tup (pa_cons pe_str (pa_cons (pe_ix (ix_g (K := K) rfl) (pv 2) (pe_ix (ix_g (K := K) rfl) (pv 4) pe_int (fun _ _ => rfl)) (fun _ _ => rfl)) (pa_cons (pe_ix (ix_g (K := K) rfl) (pv 2) (pe_op (op_gAdd (K := K) rfl) (pv 1) pe_int) (fun _ _ => rfl)) pa_nil)))) pa_nil)))) (pa_cons (pe_tup (pa_cons pe_str (pa_cons (pv 3) (pa_cons (pe_tup (pa_cons pe_str (pa_cons (pe_ix (ix_g (K := K) rfl) (pv 2) (pe_op (op_gAdd (K := K) rfl) (pv 1) pe_int) (fun _ _ => rfl)) (pa_cons (pv 5) pa_nil)))) pa_nil)))) pa_nil)))))))))), ?_⟩)
  · obtain ⟨_, _, _, _, _, _, _, _, rfl, _⟩ := h
    rfl
  · obtain ⟨p, dp, j, us, ds, rs, r, l, rfl, hp, hR, hj, hd, hD, hl, hn, hgo, hbr, h14, k⟩ := h
    try dsimp only [cxOf, Cx.nox, Cx.wish]
    change (_ : L2.TS) _ [some (.ref p), some (.int (j : Nat)), some (.ref dp), some (l), none, none] _
    refine w_start ?_
    have hj14 : j < rs.length := (List.getElem?_eq_some_iff.mp hj).1
    have hul := paired_len hR
    have lsg : ∀ k, k < rs.length → (lsT (List.range rs.length))[k]? = some (.name (nmS "l" k)) := fun k hk => by
      unfold lsT
      rw [List.getElem?_map, List.getElem?_range hk]
      rfl
    repeat' (tm_at "rs")
    rename_i p1 hp1
    have hl4 : (Str.ofString "e").length ≤ 10 := by decide
    rcases r with i | i | ⟨i, g⟩ | g | _
    · have hp3 : H p1 = some (.tup [.str "raise", .int (i : Int)]) := hp1
      have hn := hn (by intro e; cases e) (by intro g e; cases e)
      have e : (rowS rs j).map opS = [.op "under" (.op "times" (.name "q") (.name (nmS "l" j))) (.name (nmS "l" (j + 1)))] := by unfold rowS; rw [hj]; rfl
      clear hp1
      repeat' (tm_at "rs")
      refine w_ixM (i := j + 1) hd hD (lsg _ hn) (fun v hv => ?_)
      repeat' (tm_at "rs")
      exact k _ _ _ (by tm_at "rfr") (by tm_at "rsm") (by assumption) (by rw [e]; assumption)
    · have hp3 : H p1 = some (.tup [.str "lower", .int (i : Int)]) := hp1
      have hn := hn (by intro e; cases e) (by intro g e; cases e)
      have e : (rowS rs j).map opS = [.op "under" (.op "times" (.name "q") (.name (nmS "l" j))) (.name (nmS "l" (j + 1)))] := by unfold rowS; rw [hj]; rfl
      clear hp1
      repeat' (tm_at "rs")
      refine w_ixM (i := j + 1) hd hD (lsg _ hn) (fun v hv => ?_)
      repeat' (tm_at "rs")
      exact k _ _ _ (by tm_at "rfr") (by tm_at "rsm") (by assumption) (by rw [e]; assumption)
    · have hp3 : H p1 = some (.tup [.str "if", .int (i : Int), .int (g : Int)]) := hp1
      have hn := hn (by intro e; cases e) (by intro g e; cases e)
      obtain ⟨hg, hi5⟩ := hbr i g rfl
      clear hp1
      repeat' (tm_at "rs")
      · rename_i ee
        have ee2 : g = j + 1 := by omega
        have e : (rowS rs j).map opS = [.op "under" (.op "times" (.name "q") (.name (nmS "l" j))) (.name (nmS "l" (j + 1)))] := by unfold rowS; rw [hj]; show (if g = j + 1 then _ else _ : List SyW).map opS = _; rw [if_pos ee2]; rfl
        refine w_ixM (i := j + 1) hd hD (lsg _ hn) (fun v hv => ?_)
        repeat' (tm_at "rs")
        exact k _ _ _ (by tm_at "rfr") (by tm_at "rsm") (by assumption) (by rw [e]; assumption)
      · rename_i ee E1 H2 n2 s2 g2
        have ee2 : ¬ g = j + 1 := by omega
        have te : TmAt K H2 (.name (nmS "e" i)) (.ref E1) := tm_name g2
        have hd2 := s2 _ _ hd
        have hD2 := TmsAt.sm hD s2
        have hl2 := hl.sm s2
        refine w_ixM (i := g) hd2 hD2 (lsg _ hg) (fun v hv => ?_)
        repeat' (tm_at "rs")
        refine w_ixM (i := j + 1) hd2 hD2 (lsg _ hn) (fun v2 hv2 => ?_)
        repeat' (tm_at "rs")
        rename_i T1 H3 n3 s3 t3 T2 H4 n4 s4 t4
        have hd4 := s4 _ _ (s3 _ _ hd2)
        have hD4 := (TmsAt.sm hD2 s3).sm s4
        have te4 := (te.sm s3).sm s4
        have hl4' := (hl2.sm s3).sm s4
        refine w_ixM (i := j + 1) hd4 hD4 (lsg _ hn) (fun v3 hv3 => ?_)
        repeat' (tm_at "rs")
        have e : (rowS rs j).map opS = [.op "under" (.op "times" (.name "q") (.name (nmS "l" j))) (.op "plus" (.name (nmS "l" g)) (.name (nmS "l" (j + 1)))), .op "under" (.op "times" (.name "q") (.name (nmS "l" j))) (.op "plus" (.name (nmS "l" (j + 1))) (.name (nmS "e" i)))] := by unfold rowS; rw [hj]; show (if g = j + 1 then _ else _ : List SyW).map opS = _; rw [if_neg ee2]; rfl
        exact k _ _ _ (by tm_at "rfr") (by tm_at "rsm") (by assumption) (by rw [e]; assumption)
    · have hp3 : H p1 = some (.tup [.str "go", .int (g : Int)]) := hp1
      have hg := hgo g rfl
      have e : (rowS rs j).map opS = [.op "under" (.op "times" (.name "q") (.name (nmS "l" j))) (.name (nmS "l" g))] := by unfold rowS; rw [hj]; rfl
      clear hp1
      repeat' (tm_at "rs")
      refine w_ixM (i := g) hd hD (lsg _ hg) (fun v hv => ?_)
      repeat' (tm_at "rs")
      exact k _ _ _ (by tm_at "rfr") (by tm_at "rsm") (by assumption) (by rw [e]; assumption)
    · have hp3 : H p1 = some (.tup [.str "stop"]) := hp1
      have e : (rowS rs j).map opS = [] := by unfold rowS; rw [hj]; rfl
      clear hp1
      repeat' (tm_at "rs")
      exact k _ _ _ (by tm_at "rfr") (by tm_at "rsm") (by assumption) (by rw [e]; exact .nil)
/-! ### _law_sum -/
theorem ok_f_law_sum {f : Addr} {fd : FuncData} (F : Fun K "_law_sum" "_law_sum" s_f_law_sum f fd)
    (m_len : mg "len" = none) :
    FnG P w K mg base CX0 1 f fd ["terms"] (sp_f_law_sum K) := by
  refine okG F sc_f_law_sum (fun vs H Q E h => ?_) (fun cdv A outer s H vs Q E hr h => ⟨_, (pss_cons (ps_if (pt_cmpR (op_gEq (K := K) rfl hr.units) (pe_callB (call_gLen (K := K) rfl) (by rfl) m_len PySem.boot_len (pa_cons (pv 0) pa_nil)) pe_int (nomark _)) (pss_one (ps_ret (pe_tup (pa_cons pe_str (pa_cons pe_int pa_nil))))) pss_nil)
    (pss_cons (ps_set (i := 1) sc_f_law_sum.nd rfl (by first | exact Or.inl rfl | exact Or.inr rfl) (pe_ix (ix_g (K := K) rfl) (pv 0) pe_int (fun _ _ => rfl)))
    (pss_cons (ps_for PassesOwn.never rfl (pi_gl (K := K) rfl (pe_slice (sl_gl (K := K) rfl) (pv 0) (po_some pe_int) po_none)) (pg_name (i := 2) sc_f_law_sum.nd rfl (by first | exact Or.inl rfl | exact Or.inr rfl)) (pss_one (ps_set (i := 1) sc_f_law_sum.nd rfl (by first | exact Or.inl rfl | exact Or.inr rfl) (pe_tup (pa_cons pe_str (pa_cons (pv 1) (pa_cons (pv 2) pa_nil)))))))
    (pss_one (ps_ret (pv 1)))))), ?_⟩)
  · obtain ⟨_, _, _, rfl, _⟩ := h
    rfl
  · obtain ⟨p, xs, ts, rfl, hp, hx, hl, k⟩ := h
    try dsimp only [cxOf, Cx.nox, Cx.wish]
    change (_ : L2.TS) _ [some (.ref p), none, none] _
    refine w_start ?_
    cases hx with
    | nil =>
      have l0 : (([] : List V).length : Int) = 0 := rfl
      repeat' (tm_at "rs")
      rename_i z H1 nz sz gz
      exact k _ _ sz (tm_num (n := 0) gz)
    | cons h0 ht =>
      rename_i v0 t0 vs ts
      repeat' (tm_at "rs")
      · rename_i e z H1 nz sz gz
        rw [List.length_cons] at e
        exact absurd e (by omega)
      · rename_i e z H1 nz sz gz
        rw [cut_lo (by decide)] at gz
        have gz : H1 z = some (.lst vs) := gz
        refine loopL (xs := vs) (fun i σ' H' => ∃ (v : V) (x2 : Option V), σ' = [some (.ref p), some v, x2] ∧ Sm H1 H' ∧ TmAt K H' (sumT (t0 :: ts.take i)) v) ⟨_, _, rfl, Same.refl _, h0.sm sz⟩ ?_ ?_ ?_
        · rintro i σ' H' hi ⟨v, x2, rfl, hs, hv⟩
          exact sq_of (hs _ _ gz)
        · rintro i x σ' H' hxi ⟨v, x2, rfl, hs, hv⟩
          obtain ⟨u, hu, hxu⟩ := paired_get ht hxi
          have htk : ts.take (i + 1) = ts.take i ++ [u] := by rw [List.take_succ, hu]; rfl
          repeat' (tm_at "rs")
          rename_i q H2 nq sq gq
          refine ⟨_, _, rfl, hs.trans sq, ?_⟩
          rw [htk, ← List.cons_append, sumT_add (by simp)]
          first | exact tm_op gq (hv.sm sq) (hxu.sm (sz.trans (hs.trans sq))) | exact gq
        · rintro σ' H' ⟨v, x2, rfl, hs, hv⟩
          rw [paired_len ht, List.take_length] at hv
          repeat' (tm_at "rs")
          exact k _ _ (sz.trans hs) hv
/-! ### _law_sayings -/
set_option maxHeartbeats 0 in
theorem ok_f_law_sayings {f : Addr} {fd : FuncData} (F : Fun K "_law_sayings" "_law_sayings" s_f_law_sayings f fd)
    (D_f_law_asked : Def P w K mg base CX0 "_law_asked" 1 ["boxes", "rows"] (sp_f_law_asked K))
    (D_f_law_named : Def P w K mg base CX0 "_law_named" 1 ["letter", "numbers"] (sp_f_law_named K))
    (D_f_law_row_sayings : Def P w K mg base CX0 "_law_row_sayings" 1 ["rows", "k", "done", "left"] (sp_f_law_row_sayings K))
    (D_f_law_sum : Def P w K mg base CX0 "_law_sum" 1 ["terms"] (sp_f_law_sum K))
    (m_enumerate : mg "enumerate" = none)
    (m_range : mg "range" = none)
    (m_list : mg "list" = none)
    (m_str : mg "str" = none)
    (m_len : mg "len" = none) :
    FnG P w K mg base CX0 2 f fd ["boxes", "rows"] (sp_f_law_sayings K) := by
  refine okG F sc_f_law_sayings (fun vs H Q E h => ?_) (fun cdv A outer s H vs Q E hr h => ⟨_, (pss_cons (ps_asg (pe_tup (pa_cons (pe_tup (pa_cons pe_str (pa_cons pe_int pa_nil))) (pa_cons (pe_tup (pa_cons pe_str (pa_cons pe_int pa_nil))) pa_nil))) (pg_gt (K := K) (n := 2) rfl rfl (pgs_cons (pg_name (i := 2) sc_f_law_sayings.nd rfl (by first | exact Or.inl rfl | exact Or.inr rfl)) (pgs_cons (pg_name (i := 3) sc_f_law_sayings.nd rfl (by first | exact Or.inl rfl | exact Or.inr rfl)) pgs_nil))))
    (pss_cons (ps_asg (pe_lc (own := _) rfl sc_f_law_sayings.nd (pi_gl (K := K) rfl (pe_callTy (call_gLstX (K := K) rfl rfl) (by rfl) m_list PyProof.Rows.boot_list (pa_cons pe_str pa_nil))) (blkOk_by (own := [("sign", 12)]) (N := ["boxes", "rows", "one", "two", "s", "c", "h", "d", "q", "g", "i", "m", "sign", "xs", "ys", "boxed", "done", "peak", "found", "r", "l", "stops", "k", "row", "j", "e", "raised", "sunk", "left", "right"]) (sc := defScope s_f_law_sayings) (by decide +kernel)) (fun _ _ _ _ _ => (pg_name (i := 12) sc_f_law_sayings.nd rfl (by first | exact Or.inl rfl | exact Or.inr rfl))) (fun _ _ _ _ _ => pts_nil) (fun _ _ _ _ _ => (pe_tup (pa_cons pe_str (pa_cons (pv 12) pa_nil))))) (pg_gl (K := K) (n := 8) rfl rfl (pgs_cons (pg_name (i := 4) sc_f_law_sayings.nd rfl (by first | exact Or.inl rfl | exact Or.inr rfl)) (pgs_cons (pg_name (i := 5) sc_f_law_sayings.nd rfl (by first | exact Or.inl rfl | exact Or.inr rfl)) (pgs_cons (pg_name (i := 6) sc_f_law_sayings.nd rfl (by first | exact Or.inl rfl | exact Or.inr rfl)) (pgs_cons (pg_name (i := 7) sc_f_law_sayings.nd rfl (by first | exact Or.inl rfl | exact Or.inr rfl)) (pgs_cons (pg_name (i := 8) sc_f_law_sayings.nd rfl (by first | exact Or.inl rfl | exact Or.inr rfl)) (pgs_cons (pg_name (i := 9) sc_f_law_sayings.nd rfl (by first | exact Or.inl rfl | exact Or.inr rfl)) (pgs_cons (pg_name (i := 10) sc_f_law_sayings.nd rfl (by first | exact Or.inl rfl | exact Or.inr rfl)) (pgs_cons (pg_name (i := 11) sc_f_law_sayings.nd rfl (by first | exact Or.inl rfl | exact Or.inr rfl)) pgs_nil))))))))))
    (pss_cons (ps_par (i := 13) (j := 14) rfl sc_f_law_sayings.nd rfl rfl (by decide) rfl rfl (pa_cons (pe_f D_f_law_named (hr.mono (by omega)) (by rfl) pass0 (pa_cons pe_str (pa_cons (pe_listRg rfl (by rfl) m_list (prg_1 (by rfl) m_range (pv 0))) pa_nil))) (pa_cons (pe_f D_f_law_named (hr.mono (by omega)) (by rfl) pass0 (pa_cons pe_str (pa_cons (pe_listRg rfl (by rfl) m_list (prg_1 (by rfl) m_range (pv 0))) pa_nil))) pa_nil)) (by rfl))
    (pss_cons (ps_asg (pe_tup (pa_cons (pe_f D_f_law_named (hr.mono (by omega)) (by rfl) pass0 (pa_cons pe_str (pa_cons (pe_listRg rfl (by rfl) m_list (prg_1 (by rfl) m_range (pv 0))) pa_nil))) (pa_cons (pe_f D_f_law_named (hr.mono (by omega)) (by rfl) pass0 (pa_cons pe_str (pa_cons (pe_listRg rfl (by rfl) m_list (prg_1 (by rfl) m_range (pe_callB (call_gLen (K := K) rfl) (by rfl) m_len PySem.boot_len (pa_cons (pv 1) pa_nil)))) pa_nil))) pa_nil))) (pg_gt (K := K) (n := 2) rfl rfl (pgs_cons (pg_name (i := 15) sc_f_law_sayings.nd rfl (by first | exact Or.inl rfl | exact Or.inr rfl)) (pgs_cons (pg_name (i := 16) sc_f_law_sayings.nd rfl (by first | exact Or.inl rfl | exact Or.inr rfl)) pgs_nil))))
    (pss_cons (ps_set (i := 17) sc_f_law_sayings.nd rfl (by first | exact Or.inl rfl | exact Or.inr rfl) (pe_tup (pa_cons pe_str (pa_cons (pv 3) (pa_cons (pe_tup (pa_cons pe_str (pa_cons (pv 5) (pa_cons (pe_tup (pa_cons pe_str (pa_cons (pv 4) (pa_cons (pv 2) pa_nil)))) pa_nil)))) pa_nil)))))
    (pss_cons (ps_set (i := 18) sc_f_law_sayings.nd rfl (by first | exact Or.inl rfl | exact Or.inr rfl) (pe_lst (pa_cons (pe_tup (pa_cons pe_str (pa_cons (pv 6) (pa_cons (pe_tup (pa_cons pe_str (pa_cons (pe_tup (pa_cons pe_str (pa_cons (pe_f D_f_law_sum (hr.mono (by omega)) (by rfl) pass0 (pa_cons (pv 13) pa_nil)) (pa_cons (pv 2) pa_nil)))) (pa_cons (pv 7) pa_nil)))) pa_nil)))) (pa_cons (pe_tup (pa_cons pe_str (pa_cons (pv 8) (pa_cons (pe_tup (pa_cons pe_str (pa_cons (pv 3) (pa_cons (pv 6) pa_nil)))) pa_nil)))) pa_nil))))
    (pss_cons (ps_set (i := 18) sc_f_law_sayings.nd rfl (by first | exact Or.inl rfl | exact Or.inr rfl) (pe_op (op_gAdd (K := K) rfl) (pv 18) (pe_lst (pa_cons (pe_tup (pa_cons pe_str (pa_cons (pv 8) (pa_cons (pe_tup (pa_cons pe_str (pa_cons (pv 3) (pa_cons (pv 5) pa_nil)))) pa_nil)))) (pa_cons (pe_tup (pa_cons pe_str (pa_cons (pv 8) (pa_cons (pe_tup (pa_cons pe_str (pa_cons (pe_tup (pa_cons pe_str (pa_cons (pe_op (op_gAdd (K := K) rfl) (pe_callB (call_gLen (K := K) rfl) (by rfl) m_len PySem.boot_len (pa_cons (pv 1) pa_nil)) pe_int) pa_nil))) (pa_cons (pv 9) pa_nil)))) pa_nil)))) pa_nil)))))
    (pss_cons (ps_set (i := 18) sc_f_law_sayings.nd rfl (by first | exact Or.inl rfl | exact Or.inr rfl) (pe_op (op_gAdd (K := K) rfl) (pv 18) (pe_lst (pa_cons (pe_tup (pa_cons pe_str (pa_cons (pe_tup (pa_cons pe_str (pa_cons (pe_tup (pa_cons pe_str (pa_cons (pv 8) (pa_cons (pv 10) pa_nil)))) (pa_cons (pv 2) pa_nil)))) (pa_cons (pe_tup (pa_cons pe_str (pa_cons (pv 17) (pa_cons (pv 10) pa_nil)))) pa_nil)))) pa_nil))))
    (pss_cons (ps_set (i := 18) sc_f_law_sayings.nd rfl (by first | exact Or.inl rfl | exact Or.inr rfl) (pe_op (op_gAdd (K := K) rfl) (pv 18) (pe_lst (pa_cons (pe_tup (pa_cons pe_str (pa_cons (pe_tup (pa_cons pe_str (pa_cons (pv 11) (pa_cons (pv 10) pa_nil)))) (pa_cons (pe_tup (pa_cons pe_str (pa_cons (pv 6) (pa_cons (pv 10) pa_nil)))) pa_nil)))) pa_nil))))
    (pss_cons (ps_set (i := 18) sc_f_law_sayings.nd rfl (by first | exact Or.inl rfl | exact Or.inr rfl) (pe_op (op_gAdd (K := K) rfl) (pe_op (op_gAdd (K := K) rfl) (pv 18) (pe_lc (own := _) rfl sc_f_law_sayings.nd (pi_gl (K := K) rfl (pv 15)) (blkOk_by (own := [("r", 19)]) (N := ["boxes", "rows", "one", "two", "s", "c", "h", "d", "q", "g", "i", "m", "sign", "xs", "ys", "boxed", "done", "peak", "found", "r", "l", "stops", "k", "row", "j", "e", "raised", "sunk", "left", "right"]) (sc := defScope s_f_law_sayings) (by decide +kernel)) (fun _ _ _ _ _ => (pg_name (i := 19) sc_f_law_sayings.nd rfl (by first | exact Or.inl rfl | exact Or.inr rfl))) (fun _ _ _ _ _ => pts_nil) (fun _ _ _ _ _ => (pe_tup (pa_cons pe_str (pa_cons (pv 19) (pa_cons (pv 11) pa_nil))))))) (pe_lc (own := _) rfl sc_f_law_sayings.nd (pi_gl (K := K) rfl (pv 16)) (blkOk_by (own := [("l", 20)]) (N := ["boxes", "rows", "one", "two", "s", "c", "h", "d", "q", "g", "i", "m", "sign", "xs", "ys", "boxed", "done", "peak", "found", "r", "l", "stops", "k", "row", "j", "e", "raised", "sunk", "left", "right"]) (sc := defScope s_f_law_sayings) (by decide +kernel)) (fun _ _ _ _ _ => (pg_name (i := 20) sc_f_law_sayings.nd rfl (by first | exact Or.inl rfl | exact Or.inr rfl))) (fun _ _ _ _ _ => pts_nil) (fun _ _ _ _ _ => (pe_tup (pa_cons pe_str (pa_cons (pv 20) (pa_cons (pv 10) pa_nil))))))))
    (pss_cons (ps_setLc (i := 21) rfl sc_f_law_sayings.nd rfl rfl (sw_true rfl rfl rfl (by decide +kernel)) (pi_enum (by rfl) m_enumerate (pa_cons (pv 1) pa_nil)) (blkOk_by (own := [("k", 22), ("row", 23)]) (N := ["boxes", "rows", "one", "two", "s", "c", "h", "d", "q", "g", "i", "m", "sign", "xs", "ys", "boxed", "done", "peak", "found", "r", "l", "stops", "k", "row", "j", "e", "raised", "sunk", "left", "right"]) (sc := defScope s_f_law_sayings) (by decide +kernel)) (fun _ _ _ _ _ => (pg_gt (K := K) (n := 2) rfl rfl (pgs_cons (pg_name (i := 22) sc_f_law_sayings.nd rfl (by first | exact Or.inl rfl | exact Or.inr rfl)) (pgs_cons (pg_name (i := 23) sc_f_law_sayings.nd rfl (by first | exact Or.inl rfl | exact Or.inr rfl)) pgs_nil)))) (fun _ _ _ _ _ => pts_one (pt_cmpR (op_gEq (K := K) rfl hr.units) (pe_ix (ix_g (K := K) rfl) (pv 23) pe_int (fun _ _ => rfl)) pe_str (nomark _))) (fun _ _ _ _ _ => (pe_ix (ix_g (K := K) rfl) (pv 16) (pv 22) (fun _ _ => rfl))))
    (pss_cons (ps_set (i := 18) sc_f_law_sayings.nd rfl (by first | exact Or.inl rfl | exact Or.inr rfl) (pe_op (op_gAdd (K := K) rfl) (pv 18) (pe_lst (pa_cons (pe_tup (pa_cons pe_str (pa_cons (pe_f D_f_law_sum (hr.mono (by omega)) (by rfl) pass0 (pa_cons (pv 16) pa_nil)) (pa_cons (pv 10) pa_nil)))) (pa_cons (pe_tup (pa_cons pe_str (pa_cons (pv 2) (pa_cons (pe_ix (ix_g (K := K) rfl) (pv 16) pe_int (fun _ _ => rfl)) pa_nil)))) pa_nil)))))
    (pss_cons (ps_set (i := 18) sc_f_law_sayings.nd rfl (by first | exact Or.inl rfl | exact Or.inr rfl) (pe_op (op_gAdd (K := K) rfl) (pv 18) (pe_lst (pa_cons (pe_tup (pa_cons pe_str (pa_cons (pe_f D_f_law_sum (hr.mono (by omega)) (by rfl) pass0 (pa_cons (pv 21) pa_nil)) (pa_cons (pe_tup (pa_cons pe_str (pa_cons (pv 3) (pa_cons (pe_tup (pa_cons pe_str (pa_cons (pv 5) (pa_cons (pv 4) pa_nil)))) pa_nil)))) pa_nil)))) pa_nil))))
    (pss_cons (ps_for PassesOwn.never rfl (pi_gl (K := K) rfl (pe_f D_f_law_asked (hr.mono (by omega)) (by rfl) pass0 (pa_cons (pv 0) (pa_cons (pv 1) pa_nil)))) (pg_name (i := 24) sc_f_law_sayings.nd rfl (by first | exact Or.inl rfl | exact Or.inr rfl)) (pss_cons (ps_set (i := 25) sc_f_law_sayings.nd rfl (by first | exact Or.inl rfl | exact Or.inr rfl) (pe_tup (pa_cons pe_str (pa_cons (pe_op (op_gAdd (K := K) rfl) pe_str (pe_callTy call_gStrN (by rfl) m_str PyProof.Rows.boot_str (pa_cons (pv 24) pa_nil))) pa_nil))))
    (pss_one (ps_expr (pe_gbm (K := K) rfl PySem.F.plainAttrs_list PySem.F.slot_list_append PySem.F.type_list_append mt_append (pv 18) (pa_cons (pe_tup (pa_cons pe_str (pa_cons (pe_tup (pa_cons pe_str (pa_cons (pv 25) (pa_cons (pe_tup (pa_cons pe_str (pa_cons (pv 3) (pa_cons (pe_ix (ix_g (K := K) rfl) (pv 15) (pv 24) (fun _ _ => rfl)) pa_nil)))) pa_nil)))) (pa_cons (pe_tup (pa_cons pe_str (pa_cons (pv 8) (pa_cons (pv 10) pa_nil)))) pa_nil)))) pa_nil))))))
    (pss_cons (ps_for PassesOwn.never rfl (pi_enum (by rfl) m_enumerate (pa_cons (pv 1) pa_nil)) (pg_gt (K := K) (n := 2) rfl rfl (pgs_cons (pg_name (i := 22) sc_f_law_sayings.nd rfl (by first | exact Or.inl rfl | exact Or.inr rfl)) (pgs_cons (pg_name (i := 23) sc_f_law_sayings.nd rfl (by first | exact Or.inl rfl | exact Or.inr rfl)) pgs_nil))) (pss_one (ps_set (i := 18) sc_f_law_sayings.nd rfl (by first | exact Or.inl rfl | exact Or.inr rfl) (pe_op (op_gAdd (K := K) rfl) (pv 18) (pe_f D_f_law_row_sayings (hr.mono (by omega)) (by rfl) pass0 (pa_cons (pv 1) (pa_cons (pv 22) (pa_cons (pv 16) (pa_cons (pe_tup (pa_cons pe_str (pa_cons (pv 8) (pa_cons (pe_ix (ix_g (K := K) rfl) (pv 16) (pv 22) (fun _ _ => rfl)) pa_nil)))) pa_nil)))))))))
    (pss_cons (ps_for PassesOwn.never rfl (pi_range1 (by rfl) m_range (pa_cons (pv 0) pa_nil)) (pg_name (i := 24) sc_f_law_sayings.nd rfl (by first | exact Or.inl rfl | exact Or.inr rfl)) (pss_cons (ps_setLc (i := 26) rfl sc_f_law_sayings.nd rfl rfl (sw_true rfl rfl rfl (by decide +kernel)) (pi_enum (by rfl) m_enumerate (pa_cons (pv 1) pa_nil)) (blkOk_by (own := [("k", 22), ("row", 23)]) (N := ["boxes", "rows", "one", "two", "s", "c", "h", "d", "q", "g", "i", "m", "sign", "xs", "ys", "boxed", "done", "peak", "found", "r", "l", "stops", "k", "row", "j", "e", "raised", "sunk", "left", "right"]) (sc := defScope s_f_law_sayings) (by decide +kernel)) (fun _ _ _ _ _ => (pg_gt (K := K) (n := 2) rfl rfl (pgs_cons (pg_name (i := 22) sc_f_law_sayings.nd rfl (by first | exact Or.inl rfl | exact Or.inr rfl)) (pgs_cons (pg_name (i := 23) sc_f_law_sayings.nd rfl (by first | exact Or.inl rfl | exact Or.inr rfl)) pgs_nil)))) (fun _ _ _ _ _ => pts_one (pt_cmpR (op_gEq (K := K) rfl hr.units) (pv 23) (pe_tup (pa_cons pe_str (pa_cons (pv 24) pa_nil))) (nomark _))) (fun _ _ _ _ _ => (pe_ix (ix_g (K := K) rfl) (pv 16) (pv 22) (fun _ _ => rfl))))
    (pss_cons (ps_setLc (i := 27) rfl sc_f_law_sayings.nd rfl rfl (sw_true rfl rfl rfl (by decide +kernel)) (pi_enum (by rfl) m_enumerate (pa_cons (pv 1) pa_nil)) (blkOk_by (own := [("k", 22), ("row", 23)]) (N := ["boxes", "rows", "one", "two", "s", "c", "h", "d", "q", "g", "i", "m", "sign", "xs", "ys", "boxed", "done", "peak", "found", "r", "l", "stops", "k", "row", "j", "e", "raised", "sunk", "left", "right"]) (sc := defScope s_f_law_sayings) (by decide +kernel)) (fun _ _ _ _ _ => (pg_gt (K := K) (n := 2) rfl rfl (pgs_cons (pg_name (i := 22) sc_f_law_sayings.nd rfl (by first | exact Or.inl rfl | exact Or.inr rfl)) (pgs_cons (pg_name (i := 23) sc_f_law_sayings.nd rfl (by first | exact Or.inl rfl | exact Or.inr rfl)) pgs_nil)))) (fun _ _ _ _ _ => pts_one (pt_cmpR (op_gEq (K := K) rfl hr.units) (pv 23) (pe_tup (pa_cons pe_str (pa_cons (pv 24) pa_nil))) (nomark _))) (fun _ _ _ _ _ => (pe_ix (ix_g (K := K) rfl) (pv 16) (pv 22) (fun _ _ => rfl))))
    (pss_cons (ps_set (i := 28) sc_f_law_sayings.nd rfl (by first | exact Or.inl rfl | exact Or.inr rfl) (pe_tup (pa_cons pe_str (pa_cons (pe_tup (pa_cons pe_str (pa_cons (pv 8) (pa_cons (pe_tup (pa_cons pe_str (pa_cons (pe_ix (ix_g (K := K) rfl) (pv 15) (pv 24) (fun _ _ => rfl)) (pa_cons (pe_f D_f_law_sum (hr.mono (by omega)) (by rfl) pass0 (pa_cons (pv 26) pa_nil)) pa_nil)))) pa_nil)))) (pa_cons (pe_ix (ix_g (K := K) rfl) (pv 13) (pv 24) (fun _ _ => rfl)) pa_nil)))))
    (pss_cons (ps_set (i := 29) sc_f_law_sayings.nd rfl (by first | exact Or.inl rfl | exact Or.inr rfl) (pe_tup (pa_cons pe_str (pa_cons (pe_ix (ix_g (K := K) rfl) (pv 15) (pv 24) (fun _ _ => rfl)) (pa_cons (pe_tup (pa_cons pe_str (pa_cons (pv 8) (pa_cons (pe_f D_f_law_sum (hr.mono (by omega)) (by rfl) pass0 (pa_cons (pv 27) pa_nil)) pa_nil)))) pa_nil)))))
    (pss_one (ps_expr (pe_gbm (K := K) rfl PySem.F.plainAttrs_list PySem.F.slot_list_append PySem.F.type_list_append mt_append (pv 18) (pa_cons (pe_tup (pa_cons pe_str (pa_cons (pv 28) (pa_cons (pe_tup (pa_cons pe_str (pa_cons (pv 29) (pa_cons (pe_tup (pa_cons pe_str (pa_cons (pv 17) (pa_cons (pe_ix (ix_g (K := K) rfl) (pv 14) (pv 24) (fun _ _ => rfl)) pa_nil)))) pa_nil)))) pa_nil)))) pa_nil)))))))))
    (pss_one (ps_ret (pv 18))))))))))))))))))), ?_⟩)
  · obtain ⟨_, _, _, _, rfl, _⟩ := h
    rfl
  · obtain ⟨m, p, us, rs, rfl, hp, hR, hg, k⟩ := h
    try dsimp only [cxOf, Cx.nox, Cx.wish]
    change (_ : L2.TS) _ [some (.int (m : Nat)), some (.ref p), none, none, none, none, none, none, none, none, none, none, none, none, none, none, none, none, none, none, none, none, none, none, none, none, none, none, none, none] _
    refine w_start ?_
    have h5 := hg.b5
    have h14 := hg.len
    have hul := paired_len hR
    repeat' (tm_at "rs")
    refine w_lstX (by decide) (fun L8 H3 n8 s8 g8 => ?_)
    repeat' (tm_at "rs")
    rename_i A1 H1 n1 s1 g1 A2 H2 n2 s2 g2 A0 HT nT sT gT
    have e8 : sgV (Str.ofString "schdqgim") = nm8.map V.str := by rfl
    rw [e8] at g8
    refine lcLs (xs := nm8.map V.str) (fun D i H' => ∃ xs, H' D = some (.lst xs) ∧ TmsAt K H' xs ((nm8.take i).map Tm.name) ∧ Sm H3 H') ?_ ?_ ?_ ?_
    · exact fun D H' nD sm hD => ⟨[], hD, .nil, sm⟩
    · rintro D i H' nD hi ⟨xs, hD, hx, sm⟩
      exact sq_of (sm _ _ g8)
    · rintro D i x H' nD hi ⟨xs, hD, hx, sm⟩
      obtain ⟨z, hz, rfl⟩ : ∃ z, nm8[i]? = some z ∧ x = .str z := by
        rw [List.getElem?_map] at hi
        cases e : nm8[i]? with
        | none => rw [e] at hi; cases hi
        | some n => rw [e] at hi; exact ⟨n, rfl, (Option.some.inj hi).symm⟩
      have htk : nm8.take (i + 1) = nm8.take i ++ [z] := by rw [List.take_succ, hz]; rfl
      have hx100 : xs.length ≤ 100 := by
        have := hx.len
        rw [List.length_map, List.length_take] at this
        have h8 : nm8.length = 8 := rfl
        omega
      repeat' (tm_at "rs")
      rename_i q H4 nq sq gq H5 k5 g5
      have hD2 := sq _ _ hD
      refine ⟨_, g5, ?_, by tm_at "rsm"⟩
      rw [htk, List.map_append]
      exact ((TmsAt.sm hx sq).one (tm_name gq)).kpL hD2 k5
    · rintro D H' nD ⟨xs, hD, hx, sm⟩
      have hx : TmsAt K H' xs [.name (Str.ofString "s"), .name (Str.ofString "c"), .name (Str.ofString "h"), .name (Str.ofString "d"), .name (Str.ofString "q"), .name (Str.ofString "g"), .name (Str.ofString "i"), .name (Str.ofString "m")] := hx
      rcases hx with _ | ⟨ts, _ | ⟨tc, _ | ⟨th, _ | ⟨td, _ | ⟨tq, _ | ⟨tg, _ | ⟨ti, _ | ⟨tm, _ | _⟩⟩⟩⟩⟩⟩⟩⟩
      have sA : Sm H H' := s1.trans (s2.trans (sT.trans (s8.trans sm)))
      have t1 : TmAt K H' (.num 1) (.ref A1) := (tm_num (n := 1) g1).sm (s2.trans (sT.trans (s8.trans sm)))
      have t2 : TmAt K H' (.num 2) (.ref A2) := (tm_num (n := 2) g2).sm (sT.trans (s8.trans sm))
      have hp := sA _ _ hp
      have hR := hR.tk (Tk.sm sA)
      have hDn : H D = none := (s1.trans (s2.trans (sT.trans s8))).free nD
      rename_i vs_ vc vh vd vq vg vi vm
      clear g1 g2 gT g8 n1 n2 nT n8 sm s8 sT s2 s1
      refine w_glst (sq_of hD) rfl ?_
      clear hD
      iterate 90 (tm_at "rs")
      rename_i X0 Ha nX0 sX0 gX0 X xs Hb nX sX gX hX lX Y0 Hc nY0 sY0 gY0 Y ys Hd nY sY gY hY lY R0 He nR0 sR0 gR0 R ws Hf nR sR gR hRr lR L0 Hg nL0 sL0 gL0 L ls Hh nL sL gL hL lL T0 Hi nT0 sT0 gT0
      have z7 : Sm Hh Hi := sT0
      have z6 : Sm Hf Hi := sL0.trans (sL.trans z7)
      have z5 : Sm Hd Hi := sR0.trans (sR.trans z6)
      have z4 : Sm Hb Hi := sY0.trans (sY.trans z5)
      have z0 : Sm H' Hi := sX0.trans (sX.trans z4)
      have gX := z4 _ _ gX
      have gY := z5 _ _ gY
      have gR := z6 _ _ gR
      have gL := z7 _ _ gL
      have hX := TmsAt.sm hX z4
      have hY := TmsAt.sm hY z5
      have hRr := TmsAt.sm hRr z6
      have hL := TmsAt.sm hL z7
      have hp := z0 _ _ hp
      have hR := hR.tk (Tk.sm z0)
      have ts := ts.sm z0
      have tc := tc.sm z0
      have th := th.sm z0
      have td := td.sm z0
      have tq := tq.sm z0
      have tg := tg.sm z0
      have ti := ti.sm z0
      have tm := tm.sm z0
      have t1 := t1.sm z0
      have t2 := t2.sm z0
      have sA := sA.trans z0
      rw [hul] at lL hL
      clear z7 z6 z5 z4 z0 nX0 sX0 gX0 nX sX nY0 sY0 gY0 nY sY nR0 sR0 gR0 nR sR nL0 sL0 gL0 nL sL nT0 sT0 gT0 hDn
      dsimp only [List.set_cons_succ, List.set_cons_zero]
      repeat' (tm_at "rs")
      rename_i u145 u144 u143 u142 u141 u140 u139 u138 u137 u136 u135 u134 u133 u132 u131 u130 u129 u128 u127 u126 u125 u124 u123 u122 u121 u120 u119 u118 u117 u116 u115 u114 u113 u112 u111 u110 u109 u108 u107 u106 u105 u104 u103 u102 u101 u100 u99 u98 u97 u96 u95 u94 u93 u92 u91 u90 u89 u88 u87 u86 u85 u84 u83 u82 u81 u80 u79 u78 u77 u76 u75 u74 u73 u72 u71 u70 u69 u68 u67 u66 u65 u64 u63 u62 u61 u60 u59 u58 u57 u56 u55 u54 u53 u52 u51 u50 u49 u48 u47 u46 u45 u44 u43 u42 u41 u40 u39 u38 u37 u36 u35 u34 u33 u32 u31 u30 u29 u28 u27 u26 u25 u24 u23 u22 u21 u20 u19 u18 u17 u16 u15 u14 u13 u12 u11 u10 u9 u8 u7 u6 B0 H9 nB sB gB hB
      have s9 : Sm Hi H9 := by tm_at "rsm"
      have tpk : TmAt K H9 topT (.ref u135) := TmAt.sm u131 (by clear s9; tm_at "rsm")
      have hB1 : TmsAt K H9 _ ((baseS m us.length).map opS) := hB
      rw [hul] at hB1
      have pk : ∃ bs, H9 B0 = some (.lst bs) ∧ TmsAt K H9 bs ((baseS m rs.length).map opS) := ⟨_, gB, hB1⟩
      clear hB hB1 gB
      obtain ⟨bs, gB, hB⟩ := pk
      dsimp only [List.set_cons_succ, List.set_cons_zero]
      clear u6 u7 u8 u9 u10 u11 u12 u13 u14 u15 u16 u17 u18 u19 u20 u21 u22 u23 u24 u25 u26 u27 u28 u29 u30 u31 u32 u33 u34 u35 u36 u37 u38 u39 u40 u41 u42 u43 u44 u45 u46 u47 u48 u49 u50 u51 u52 u53 u54 u55 u56 u57 u58 u59 u60 u61 u62 u63 u64 u65 u66 u67 u68 u69 u70 u71 u72 u73 u74 u75 u76 u77 u78 u79 u80 u81 u82 u83 u84 u85 u86 u87 u88 u89 u90 u91 u92 u93 u94 u95 u96 u97 u98 u99 u100 u101 u102 u103 u104 u105 u106 u107 u108 u109 u110 u111 u112 u113 u114 u115 u116 u117 u118 u119 u120 u121 u122 u123 u124 u125 u126 u127 u128 u129 u130 u131 u132 u133 u134 u136 u137 u138 u139 u140 u141 u142 u143 u144 u145 nB sB
      have gR := s9 _ _ gR
      have gL := s9 _ _ gL
      have gX := s9 _ _ gX
      have gY := s9 _ _ gY
      have hX := TmsAt.sm hX s9
      have hY := TmsAt.sm hY s9
      have hRr := TmsAt.sm hRr s9
      have hL := TmsAt.sm hL s9
      have hp := s9 _ _ hp
      have hR := hR.tk (Tk.sm s9)
      have ts := ts.sm s9
      have tc := tc.sm s9
      have tq := tq.sm s9
      have ti := ti.sm s9
      have tm := tm.sm s9
      have t1 := t1.sm s9
      have t2 := t2.sm s9
      have sA := sA.trans s9
      clear s9 th td tg
      refine lcMs (F := fun t => .op "under" t (.name "m")) gR hRr (by omega) (fun x t D H' zs R sm tx hD hzl kk => ?_) (fun Q1 zs1 H10 nQ sQ gQ hQ lQ => ?_)
      · have tm := tm.sm sm
        clear hD
        repeat' (tm_at "rs")
        rename_i q H2 nq sq tq
        exact kk _ _ sq tq
      have hbl := TmsAt.len hB
      rw [List.length_map, baseS_len] at hbl
      have gB := sQ _ _ gB
      have hB := TmsAt.sm hB sQ
      have gL2 := sQ _ _ gL
      have hL2 := TmsAt.sm hL sQ
      repeat' (tm_at "rs")
      rename_i C1 H11 nC1 sC1 gC1 hC1
      have gL3 := sC1 _ _ gL2
      have hL3 := TmsAt.sm hL2 sC1
      refine lcMs (F := fun t => .op "under" t (.name "i")) gL3 hL3 (by omega) (fun x t D H' zs R sm tx hD hzl kk => ?_) (fun Q2 zs2 H12 nQ2 sQ2 gQ2 hQ2 lQ2 => ?_)
      · have ti := ti.sm (sQ.trans (sC1.trans sm))
        clear hD
        repeat' (tm_at "rs")
        rename_i q H2 nq sq tq
        exact kk _ _ sq tq
      have gC1 := sQ2 _ _ gC1
      have hC1 := TmsAt.sm hC1 sQ2
      repeat' (tm_at "rs")
      rename_i F0 H13 nF0 sF0 gF0 hF0
      have hs13 : Sm H9 H13 := by tm_at "rsm"
      have S : S32 K H13 m rs.length p X Y R L us xs ys ws ls rs (.ref A1) (.ref A2) vc vs_ vq vi (.ref u135) := ⟨hs13 _ _ hp, hR.tk (Tk.sm hs13), hs13 _ _ gX, TmsAt.sm hX hs13, hs13 _ _ gY, TmsAt.sm hY hs13, hs13 _ _ gR, TmsAt.sm hRr hs13, hs13 _ _ gL, TmsAt.sm hL hs13, t1.sm hs13, t2.sm hs13, tc.sm hs13, ts.sm hs13, tq.sm hs13, ti.sm hs13, tpk.sm hs13⟩
      have sA := sA.trans hs13
      have hfl : (bs ++ zs1 ++ zs2).length ≤ 100 := by
        rw [List.length_append, List.length_append]
        omega
      have hF0 : TmsAt K H13 (bs ++ zs1 ++ zs2) ((baseS m rs.length ++ (List.range m).map (fun j => undr (.name (nmS "r" j)) (.name "m")) ++ (List.range rs.length).map (fun k => undr (.name (nmS "l" k)) (.name "i"))).map opS) := by
        rw [List.map_append, List.map_append, List.map_map, List.map_map]
        rw [List.map_map, List.map_map] at hF0
        exact hF0
      have pk : ∃ zs, H13 F0 = some (.lst zs) ∧ zs.length ≤ 100 ∧ TmsAt K H13 zs ((baseS m rs.length ++ (List.range m).map (fun j => undr (.name (nmS "r" j)) (.name "m")) ++ (List.range rs.length).map (fun k => undr (.name (nmS "l" k)) (.name "i"))).map opS) := ⟨_, gF0, hfl, hF0⟩
      clear hs13 hF0 gF0 hfl hC1 gC1 gB hB hX hY hRr hL gX gY gR gL t1 t2 tc ts tq ti tm tpk hp hR gL2 hL2 gL3 hL3 gQ hQ gQ2 hQ2 nQ nQ2 nC1 nF0 sQ sQ2 sC1 sF0
      obtain ⟨fs, gF, hfl, hF⟩ := pk
      refine lcEn (xs := us) (fun D i H' => ∃ zs, H' D = some (.lst zs) ∧ TmsAt K H' zs (lsT (stpK rs i)) ∧ zs.length ≤ i ∧ Sm H13 H') ?_ ?_ ?_ ?_
      · exact fun D H' nD sm hD => ⟨[], hD, .nil, Nat.le_refl _, sm⟩
      · rintro D i H' nD hi ⟨zs, hD, hz, hzl, sm⟩
        exact sq_of (sm _ _ S.hp)
      · rintro D i x T H1 H' nD hil hx ⟨zs, hD, hz, hzl, sm⟩ nT sT gT
        obtain ⟨r, hri, t, rfl, ht⟩ := paired_get S.hR hx
        have sm' := sm.trans sT
        have ht' : H' t = some (.tup r.vs) := sm' _ _ ht
        have gL' := sm' _ _ S.gL
        have hL' := TmsAt.sm S.hL sm'
        have hD' := sT _ _ hD
        have hz' := TmsAt.sm hz sT
        have hzl2 : zs.length ≤ 100 := by omega
        rw [stpK_succ, hri]
        clear hD hz
        rcases r with j | j | ⟨j, g⟩ | g | _
        · have ht3 : H' t = some (.tup [.str "raise", .int (j : Int)]) := ht'
          clear ht' ht
          rw [if_neg (by intro e; cases e), List.append_nil]
          repeat' (tm_at "rs")
          exact ⟨zs, hD', hz', by omega, sm'⟩
        · have ht3 : H' t = some (.tup [.str "lower", .int (j : Int)]) := ht'
          clear ht' ht
          rw [if_neg (by intro e; cases e), List.append_nil]
          repeat' (tm_at "rs")
          exact ⟨zs, hD', hz', by omega, sm'⟩
        · have ht3 : H' t = some (.tup [.str "if", .int (j : Int), .int (g : Int)]) := ht'
          clear ht' ht
          rw [if_neg (by intro e; cases e), List.append_nil]
          repeat' (tm_at "rs")
          exact ⟨zs, hD', hz', by omega, sm'⟩
        · have ht3 : H' t = some (.tup [.str "go", .int (g : Int)]) := ht'
          clear ht' ht
          rw [if_neg (by intro e; cases e), List.append_nil]
          repeat' (tm_at "rs")
          exact ⟨zs, hD', hz', by omega, sm'⟩
        · have ht3 : H' t = some (.tup [.str "stop"]) := ht'
          clear ht' ht
          rw [if_pos rfl, lsT_snoc]
          repeat' (tm_at "rs")
          refine w_ixM (i := i) gL' hL' (lsg (by omega)) (fun v hv => ?_)
          refine w_lcEnd hD' (sz_lt (by omega)) (fun H3 k3 g3 => ?_)
          exact ⟨_, g3, (hz'.one hv).kpL hD' k3, by rw [List.length_append]; show zs.length + 1 ≤ _; omega, by tm_at "rsm"⟩
      · rintro D H' nD ⟨zs, hD, hz, hzl, sm⟩
        rw [hul] at hz
        have S2 := S.sm sm
        have gF2 := sm _ _ gF
        have hF2 := TmsAt.sm hF sm
        have sA2 := sA.trans sm
        obtain ⟨gp2, hR2, gX2, hX2, gY2, hY2, gR2, hW2, gL2, hL2, t1, t2, tc, ts, tq, ti, tk⟩ := id S2
        have hpos := hg.pos
        have hll : ls.length ≤ 14 := by omega
        clear S gF hF sm sA nD
        repeat' (tm_at "rs")
        rename_i v1 H3 s3 tv1 E1 H4 nE1 sE1 tE1
        have s24 : Sm H' H4 := s3.trans sE1
        refine w_ixM (i := 0) (s24 _ _ gL2) (TmsAt.sm hL2 s24) (lsg (by omega)) (fun v hv => ?_)
        have t1 := t1.sm s24
        clear s24
        repeat' (tm_at "rs")
        rename_i F1 H14 nF1 sF1 gF1 hF1
        have nF1' : H' F1 = none := by tm_at "rfr"
        obtain ⟨np1, nX1, nY1, nR1, nL1⟩ := S2.new nF1'
        have nF1H : H F1 = none := sA2.free nF1'
        have s14 : Sm H' H14 := by clear sA2; tm_at "rsm"
        have S4 := S2.sm s14
        have sA4 := sA2.trans s14
        have pk : ∃ zs, H14 F1 = some (.lst zs) ∧ zs.length ≤ 103 ∧ TmsAt K H14 zs ((p1S m rs).map opS) := by
          refine ⟨_, gF1, by simp only [List.length_append, List.length_cons, List.length_nil]; omega, ?_⟩
          unfold p1S
          rw [List.map_append, List.map_append (l₁ := _ ++ _ ++ _)]
          exact hF1
        clear gF1 hF1 nF1 sF1 nF1' s14 sA2 S2 gp2 hR2 gX2 hX2 gY2 hY2 gR2 hW2 gL2 hL2 t1 t2 tc ts tq ti tk gF2 hF2 hD hz
        obtain ⟨fs2, gF, hgl, hF⟩ := pk
        refine call_lawAsked S4.hp S4.hR (by omega) (by omega) (fun AQ H15 nq s15 gq => ?_)
        have S5 := S4.sm s15
        have gF5 := s15 _ _ gF
        have hF5 := TmsAt.sm hF s15
        have sA5 := sA4.trans s15
        have hal := asked_le m rs
        have hnl : (nV (asked m rs)).length ≤ 5 := by rw [nV_len]; omega
        have nqF : AQ ≠ F1 := (ne_of_none gF nq).symm
        clear S4 gF hF sA4 s15 nq
        dsimp only [List.set_cons_succ, List.set_cons_zero]
        repeat' (tm_at "rs")
        refine loopL (xs := nV (asked m rs)) (fun i σ' H' => ∃ (x24 x25 : Option V) (zs : List V), σ' = [some (.int (m : Nat)), some (.ref p), some (.ref A1), some (.ref A2), some vs_, some vc, some vh, some vd, some vq, some vg, some vi, some vm, none, some (.ref X), some (.ref Y), some (.ref R), some (.ref L), some (.ref u135), some (.ref F1), none, none, some (.ref D), none, none, x24, x25, none, none, none, none] ∧ Kp F1 H15 H' ∧ H' F1 = some (.lst zs) ∧ zs.length ≤ 103 + i ∧ TmsAt K H' zs ((p1S m rs ++ ((asked m rs).take i).map askS).map opS)) ?_ ?_ ?_ ?_
        · exact ⟨_, _, fs2, rfl, Kp.refl _, gF5, by omega, by rw [List.take_zero]; show TmsAt K H15 fs2 ((p1S m rs ++ []).map opS); rw [List.append_nil]; exact hF5⟩
        · rintro i σ' H' hi ⟨x24, x25, zs, rfl, kF, gF, hl, hz⟩
          exact sq_of (kF _ _ nqF gq)
        · rintro i x σ' H' hx ⟨x24, x25, zs, rfl, kF, gF, hl, hz⟩
          obtain ⟨j, hj, rfl⟩ := nV_gt hx
          have hjm := asked_lt j (List.mem_of_getElem? hj)
          have hil := (List.getElem?_eq_some_iff.mp hj).1
          have hj3 : j < 1000 := by omega
          obtain ⟨gp2, hR2, gX2, hX2, gY2, hY2, gR2, hW2, gL2, hL2, t1, t2, tc, ts, tq, ti, tk⟩ := S5.kp gF5 kF np1 nX1 nY1 nR1 nL1
          have htk : (asked m rs).take (i + 1) = (asked m rs).take i ++ [j] := by rw [List.take_succ, hj]; rfl
          clear S5 hF5
          repeat' (tm_at "rs")
          rename_i E2 H16 nE2 sE2 gE2
          have te2 : TmAt K H16 (.name (nmS "e" j)) (.ref E2) := tm_name gE2
          refine w_ixM (i := j) (sE2 _ _ gR2) (TmsAt.sm hW2 sE2) (nmg hjm) (fun v hv => ?_)
          clear gE2
          repeat' (tm_at "rs")
          rename_i H17 k17 g17 h17
          refine ⟨_, _, _, rfl, by tm_at "rkp", g17, by rw [List.length_append]; show zs.length + 1 ≤ _; omega, ?_⟩
          have e17 : (p1S m rs ++ ((asked m rs).take i ++ [j]).map askS).map opS = (p1S m rs ++ ((asked m rs).take i).map askS).map opS ++ [opS (askS j)] := by simp only [List.map_append, List.append_assoc, List.map_cons, List.map_nil]
          rw [htk, e17]
          exact h17
        · rintro σ' H' ⟨x24, x25, zs, rfl, kF, gF, hl, hz⟩
          rw [nV_len, List.take_length] at hz
          rw [nV_len] at hl
          have S6 := S5.kp gF5 kF np1 nX1 nY1 nR1 nL1
          have sA6 : Sm H H' := sm_mut sA5 nF1H kF
          clear S5 hF5 gF5 kF sA5 gq hnl nqF
          repeat' (tm_at "rs")
          refine loopEn (xs := us) (fun i σ2 H2 => ∃ (Fx : Addr) (x22 x23 : Option V) (zs : List V), σ2 = [some (.int (m : Nat)), some (.ref p), some (.ref A1), some (.ref A2), some vs_, some vc, some vh, some vd, some vq, some vg, some vi, some vm, none, some (.ref X), some (.ref Y), some (.ref R), some (.ref L), some (.ref u135), some (.ref Fx), none, none, some (.ref D), x22, x23, x24, x25, none, none, none, none] ∧ (p ≠ Fx ∧ X ≠ Fx ∧ Y ≠ Fx ∧ R ≠ Fx ∧ L ≠ Fx) ∧ H Fx = none ∧ Sm H' H2 ∧ H2 Fx = some (.lst zs) ∧ zs.length ≤ 108 + 2 * i ∧ TmsAt K H2 zs ((p1S m rs ++ (asked m rs).map askS ++ rowsS rs i).map opS)) ?_ ?_ ?_ ?_
          · exact ⟨F1, _, _, zs, rfl, ⟨np1, nX1, nY1, nR1, nL1⟩, nF1H, Same.refl _, gF, by omega, by show TmsAt K H' zs ((_ ++ []).map opS); rw [List.append_nil]; exact hz⟩
          · rintro i σ2 H2 hi ⟨Fx, x22, x23, zs, rfl, nn, nH, sm, gF, hl, hz⟩
            exact sq_of (sm _ _ S6.hp)
          · rintro i x T σ2 H1 H2 hil hx ⟨Fx, x22, x23, zs2, rfl, nn, nH, sm, gF2, hl2, hz2⟩ nT sT gT
            obtain ⟨r, hri, t, rfl, ht⟩ := paired_get S6.hR hx
            have sm2 := sm.trans sT
            have S7 := S6.sm sm2
            obtain ⟨gp2, hR2, gX2, hX2, gY2, hY2, gR2, hW2, gL2, hL2, t1, t2, tc, ts, tq, ti, tk⟩ := id S7
            have gF3 := sT _ _ gF2
            have hz3 := TmsAt.sm hz2 sT
            clear hz2 gF2
            repeat' (tm_at "rs")
            refine w_ixM (i := i) gL2 hL2 (lsg (by omega)) (fun v hv => ?_)
            repeat' (tm_at "rs")
            rename_i Tw H3 nTw sTw tTw
            have ho := hg.ok r (List.mem_of_getElem? hri)
            refine call_lawRowS (sTw _ _ gp2) (hR2.tk (Tk.sm sTw)) hri (sTw _ _ gL2) (TmsAt.sm hL2 sTw) tTw (fun a b => hg.next hri a b) (fun g e => by subst e; exact ho) (fun a g e => by subst e; exact ⟨ho.2, by have := ho.1; omega⟩) h14 (fun Q3 ys3 H4 nQ3 sQ3 gQ3 hQ3 => ?_)
            have lq := TmsAt.len hQ3
            rw [List.length_map] at lq
            have lr := rowS_len rs i
            have sm4 := sm2.trans (sTw.trans sQ3)
            have gF4 := sQ3 _ _ (sTw _ _ gF3)
            have hz4 := (TmsAt.sm hz3 sTw).sm sQ3
            clear hz3
            refine w_catM gF4 hz4 gQ3 hQ3 (by omega) (fun F2 H5 nF2 sF2 gF5 hF5 => ?_)
            have nn2 := (S6.sm sm4).new nF2
            have nH2 : H F2 = none := (sA6.trans sm4).free nF2
            repeat' (tm_at "rs")
            refine ⟨F2, _, _, _, rfl, nn2, nH2, sm4.trans sF2, gF5, by rw [List.length_append]; omega, ?_⟩
            rw [rowsS_succ, ← List.append_assoc, List.map_append]
            exact hF5
          · rintro σ2 H2 ⟨Fx, x22, x23, zs2, rfl, ⟨n1, n2, n3, n4, n5⟩, nH, sm, gF2, hl2, hz2⟩
            rw [hul] at hl2 hz2
            have S7 := S6.sm sm
            have sA7 := sA6.trans sm
            clear S6 sA6 sm gF hz hl
            repeat' (tm_at "rs")
            refine loopR (fun j σ3 H3 => ∃ (x24 x26 x27 x28 x29 : Option V) (zs : List V), σ3 = [some (.int (m : Nat)), some (.ref p), some (.ref A1), some (.ref A2), some vs_, some vc, some vh, some vd, some vq, some vg, some vi, some vm, none, some (.ref X), some (.ref Y), some (.ref R), some (.ref L), some (.ref u135), some (.ref Fx), none, none, some (.ref D), x22, x23, x24, x25, x26, x27, x28, x29] ∧ Kp Fx H2 H3 ∧ H3 Fx = some (.lst zs) ∧ zs.length ≤ 136 + j ∧ TmsAt K H3 zs ((p1S m rs ++ (asked m rs).map askS ++ rowsS rs rs.length ++ (List.range j).map (boxS rs)).map opS)) ?_ ?_ ?_
            · exact ⟨_, _, _, _, _, zs2, rfl, Kp.refl _, gF2, by omega, by show TmsAt K H2 zs2 ((_ ++ []).map opS); rw [List.append_nil]; exact hz2⟩
            · rintro j σ3 H3 hj ⟨x24, x26, x27, x28, x29, zs3, rfl, kF, gF3, hl3, hz3⟩
              rw [Int.toNat_natCast] at hj
              have S8 := S7.kp gF2 kF n1 n2 n3 n4 n5
              clear hz2
              rw [Int.zero_add]
              repeat' (tm_at "rs")
              refine lcPlc (.up j) S8.hp S8.hR S8.gL S8.hL (by omega) (by omega) (fun D i t T r H' R1 R0 gT gt gl hl hi k1 k0 => ?_) (fun D1 zsu H4 nD1 sD1 gD1 hD1 lD1 => ?_)
              · repeat' (tm_at "rs")
                rename_i q2 H5 n5 s5 g5
                refine w_eqRow (r := r) (q := .up j) (s5 _ _ gt) g5 ?_
                repeat' (tm_at "rs")
                · rename_i e
                  refine w_ixM (i := i) (s5 _ _ gl) (TmsAt.sm hl s5) (lsg hi) (fun v hv => ?_)
                  exact k1 e v _ s5 hv
                · rename_i e
                  exact k0 e _ s5
              have S9 := S8.sm sD1
              have gF4 := sD1 _ _ gF3
              have hz4 := TmsAt.sm hz3 sD1
              have k4 : Kp Fx H2 H4 := Kp.trans kF (Kp.of sD1)
              clear hz3 S8
              repeat' (tm_at "rs")
              refine lcPlc (.dn j) S9.hp S9.hR S9.gL S9.hL (by omega) (by omega) (fun D i t T r H' R1 R0 gT gt gl hl hi k1 k0 => ?_) (fun D2 zsd H5 nD2 sD2 gD2 hD2 lD2 => ?_)
              · repeat' (tm_at "rs")
                rename_i q2 H5 n5 s5 g5
                refine w_eqRow (r := r) (q := .dn j) (s5 _ _ gt) g5 ?_
                repeat' (tm_at "rs")
                · rename_i e
                  refine w_ixM (i := i) (s5 _ _ gl) (TmsAt.sm hl s5) (lsg hi) (fun v hv => ?_)
                  exact k1 e v _ s5 hv
                · rename_i e
                  exact k0 e _ s5
              obtain ⟨gp2, hR2, gX2, hX2, gY2, hY2, gR2, hW2, gL2, hL2, t1, t2, tc, ts, tq, ti, tk⟩ := S9.sm sD2
              have gF5 := sD2 _ _ gF4
              have hz5 := TmsAt.sm hz4 sD2
              have gU := sD2 _ _ gD1
              have hU := TmsAt.sm hD1 sD2
              have k5 : Kp Fx H2 H5 := Kp.trans k4 (Kp.of sD2)
              clear hz4 gF4 hD1 gD1 k4 kF S9 hL2 gL2 gp2 hR2
              repeat' (tm_at "rq")
              rename_i H6 k6 g6 h6
              have e6 : (p1S m rs ++ (asked m rs).map askS ++ rowsS rs rs.length ++ (List.range (j + 1)).map (boxS rs)).map opS = (p1S m rs ++ (asked m rs).map askS ++ rowsS rs rs.length ++ (List.range j).map (boxS rs)).map opS ++ [opS (boxS rs j)] := by simp only [List.range_succ, List.map_append, List.append_assoc, List.map_cons, List.map_nil]
              refine ⟨_, _, _, _, _, _, rfl, by tm_at "rkp", g6, by rw [List.length_append]; show zs3.length + 1 ≤ _; omega, ?_⟩
              rw [e6]
              exact h6
            · rintro σ3 H3 ⟨x24, x26, x27, x28, x29, zs3, rfl, kF, gF3, hl3, hz3⟩
              rw [Int.toNat_natCast, p1_sys] at hz3
              repeat' (tm_at "rs")
              exact k Fx zs3 H3 nH (sm_mut sA7 nH kF) gF3 hz3
/-! ### sum_of -/
theorem ok_f_sum_of {f : Addr} {fd : FuncData} (F : Fun K "sum_of" "sum_of" s_f_sum_of f fd)
    (m_enumerate : mg "enumerate" = none)
    (m_int : mg "int" = none) :
    FnG P w K mg base CX0 1 f fd ["terms"] (sp_f_sum_of K) := by
  refine okG F sc_f_sum_of (fun vs H Q E h => ?_) (fun cdv A outer s H vs Q E hr h => ⟨_, (pss_cons (ps_set (i := 1) sc_f_sum_of.nd rfl (by first | exact Or.inl rfl | exact Or.inr rfl) (pe_tup (pa_cons pe_str (pa_cons pe_int pa_nil))))
    (pss_cons (ps_for PassesOwn.never rfl (pi_enum (by rfl) m_enumerate (pa_cons (pv 0) pa_nil)) (pg_gt (K := K) (n := 2) rfl rfl (pgs_cons (pg_name (i := 2) sc_f_sum_of.nd rfl (by first | exact Or.inl rfl | exact Or.inr rfl)) (pgs_cons (pg_name (i := 3) sc_f_sum_of.nd rfl (by first | exact Or.inl rfl | exact Or.inr rfl)) pgs_nil))) (pss_one (ps_set (i := 1) sc_f_sum_of.nd rfl (by first | exact Or.inl rfl | exact Or.inr rfl) (pe_ix (ix_g (K := K) rfl) (pe_lst (pa_cons (pe_tup (pa_cons pe_str (pa_cons (pv 1) (pa_cons (pv 3) pa_nil)))) (pa_cons (pv 3) pa_nil))) (pe_callTy call_gInt (by rfl) m_int PyProof.Rows.boot_int (pa_cons (pe_cmpR (op_gEq (K := K) rfl hr.units) (pv 2) pe_int (nomark _)) pa_nil)) (fun _ _ => rfl)))))
    (pss_one (ps_ret (pv 1))))), ?_⟩)
  · obtain ⟨_, _, _, rfl, _⟩ := h
    rfl
  · obtain ⟨p, xs, ts, rfl, hp, hx, k⟩ := h
    try dsimp only [cxOf, Cx.nox, Cx.wish]
    change (_ : L2.TS) _ [some (.ref p), none, none, none] _
    refine w_start ?_
    have hxl := paired_len hx
    repeat' (tm_at "rs")
    rename_i z H1 nz sz gz
    refine loopEn (xs := xs) (fun i σ' H' => ∃ (v : V) (x2 x3 : Option V), σ' = [some (.ref p), some v, x2, x3] ∧ Sm H H' ∧ TmAt K H' (sumT (ts.take i)) v) ⟨_, _, _, rfl, sz, tm_num gz⟩ ?_ ?_ ?_
    · rintro i σ' H' hi ⟨v, x2, x3, rfl, hs, hv⟩
      exact sq_of (hs _ _ hp)
    · rintro i x T σ' H1 H2 hi hxi ⟨v, x2, x3, rfl, hs, hv⟩ nT sT gT
      obtain ⟨t, hti, ht⟩ := paired_get hx hxi
      have ht2 := ht.sm (hs.trans sT)
      have hv2 := hv.sm sT
      have htk : ts.take (i + 1) = ts.take i ++ [t] := by rw [List.take_succ, hti]; rfl
      repeat' (tm_at "rs")
      · first
        | (rename_i q H3 nq sq gq L H4 nL sL gL hL e
           have e : i = 0 := by omega
           subst e
           refine ⟨_, _, _, rfl, hs.trans (sT.trans (sq.trans sL)), ?_⟩
           rw [htk]
           exact ht2.sm (sq.trans sL))
        | (rename_i q H3 nq sq gq L H4 nL sL gL e
           have e : i = 0 := by omega
           subst e
           refine ⟨_, _, _, rfl, hs.trans (sT.trans (sq.trans sL)), ?_⟩
           rw [htk]
           exact ht2.sm (sq.trans sL))
      · first
        | (rename_i q H3 nq sq gq L H4 nL sL gL hL e
           refine ⟨_, _, _, rfl, hs.trans (sT.trans (sq.trans sL)), ?_⟩
           rw [htk, sumT_add (by
             intro z
             have h1 := congrArg List.length z
             have h2 := (List.getElem?_eq_some_iff.mp hti).1
             rw [List.length_take] at h1
             have h3 : ([] : List Tm).length = 0 := rfl
             omega)]
           first | exact (tm_op gq (hv2.sm sq) (ht2.sm sq)).sm sL | exact TmAt.sm gq sL)
        | (rename_i q H3 nq sq gq L H4 nL sL gL e
           refine ⟨_, _, _, rfl, hs.trans (sT.trans (sq.trans sL)), ?_⟩
           rw [htk, sumT_add (by
             intro z
             have h1 := congrArg List.length z
             have h2 := (List.getElem?_eq_some_iff.mp hti).1
             rw [List.length_take] at h1
             have h3 : ([] : List Tm).length = 0 := rfl
             omega)]
           first | exact (tm_op gq (hv2.sm sq) (ht2.sm sq)).sm sL | exact TmAt.sm gq sL)
    · rintro σ' H' ⟨v, x2, x3, rfl, hs, hv⟩
      rw [hxl, List.take_length] at hv
      repeat' (tm_at "rs")
      exact k _ _ hs hv
/-! ### named -/
theorem ok_f_named {f : Addr} {fd : FuncData} (F : FunD K "named" "named" (defArgs s_f_named) (defBody s_f_named) (defScope s_f_named) [V.str ""] [] f fd) :
    FnG P w K mg base CX0 1 f fd ["letter", "number"] (sp_f_named K) := by
  refine okD F sc_f_named (fun vs H Q E h => ?_) (fun cdv A outer s H vs Q E hr h => ⟨_, (pss_one (ps_ret (pe_tup (pa_cons pe_str (pa_cons (pe_joined (PJ.cons (pe_fmt (pv 0)) (PJ.cons (pe_fmt (pv 1)) PJ.nil))) pa_nil))))), ?_⟩)
  · obtain ⟨_, _, _, rfl, _⟩ := h
    rfl
  · obtain ⟨c, n, z, rfl, hn, hc, k⟩ := h
    try dsimp only [cxOf, Cx.nox, Cx.wish]
    change (_ : L2.TS) _ [some (.str c), some (n)] _
    refine w_start ?_
    rcases hn with ⟨rfl, rfl⟩ | ⟨j, rfl, hj, rfl⟩
    · have e0 : (Str.ofString "").length = 0 := rfl
      have ap0 : ∀ z : Str, z ++ Str.ofString "" = z := fun z => by
        cases z with
        | mk c =>
          show Str.mk (c ++ #[]) = _
          rw [Array.append_empty]
      repeat' (tm_at "rs")
      repeat' (tm_at "rs")
      rename_i p H1 np sm g
      rw [ap0] at g
      exact k p H1 np sm (tm_name g)
    · repeat' (tm_at "rs")
      rename_i p H1 np sm g
      exact k p H1 np sm (tm_name g)
/-! ### Saying.__init__ -/
theorem ok_f_Saying__init {f : Addr} {fd : FuncData} (F : Fun K "__init__" "Saying.__init__" s_f_Saying__init f fd) {a_WORDS : Addr}
    (c_WORDS : mg "WORDS" = some (.ref a_WORDS))
    (d_WORDS : KDs K w a_WORDS ["same", "under"]) :
    FnG P w K mg base CX0 1 f fd ["self", "word", "left", "right"] (sp_f_Saying__init K) := by
  refine okG F sc_f_Saying__init (fun vs H Q E h => ?_) (fun cdv A outer s H vs Q E hr h => ⟨_, (pss_cons (ps_if (pt_cmp (pc_niK (pv 1) (pe_glob (v := .ref a_WORDS) rfl c_WORDS rfl))) (pss_one ps_never) pss_nil)
    (pss_cons (ps_fld (pv 0) (pv 1) rfl)
    (pss_cons (ps_fld (pv 0) (pv 2) rfl)
    (pss_one (ps_fld (pv 0) (pv 3) rfl))))), ?_⟩)
  · obtain ⟨_, _, _, _, _, _, rfl, _⟩ := h
    rfl
  · obtain ⟨p, C, dx, w, l, r, rfl, hp, hC, hw, k⟩ := h
    try dsimp only [cxOf, Cx.nox, Cx.wish]
    change (_ : L2.TS) _ [some (.ref p), some (.str w), some (l), some (r)] _
    refine w_start ?_
    repeat' (tm_at "rs")
    refine w_nie d_WORDS (by rcases hw with rfl | rfl <;> simp) ?_
    repeat' (tm_at "rs")
    refine w_sfldE hp hC.cl (hC.na _ (by simp)) (by show 0 < 1000; decide) (fun H1 k1 g1 => ?_)
    repeat' (tm_at "rs")
    refine w_sfldE g1 hC.cl (hC.na _ (by simp)) (by show 1 < 1000; decide) (fun H2 k2 g2 => ?_)
    repeat' (tm_at "rs")
    refine w_sfldE g2 hC.cl (hC.na _ (by simp)) (by show 2 < 1000; decide) (fun H3 k3 g3 => ?_)
    repeat' (tm_at "rs")
    exact k _ (Kp.trans k1 (Kp.trans k2 k3)) g3
/-! ### power_at -/
theorem ok_f_power_at {f : Addr} {fd : FuncData} (F : Fun K "power_at" "power_at" s_f_power_at f fd) {a_TWO : Addr}
    (DK_f_named_p1 : DefK P w K mg base CX0 "named" 1 ["letter", "number"] [] gk_f_named_p1 (sp_f_named K))
    (c_TWO : mg "TWO" = some (.ref a_TWO))
    (d_TWO : ∀ H : Hp, SqT K H a_TWO [V.str "num", V.int 2]) :
    FnG P w K mg base CX0 2 f fd ["steps"] (sp_f_power_at K) := by
  refine okG F sc_f_power_at (fun vs H Q E h => ?_) (fun cdv A outer s H vs Q E hr h => ⟨_, (pss_one (ps_ret (pe_tup (pa_cons pe_str (pa_cons (pe_glob (v := .ref a_TWO) rfl c_TWO rfl) (pa_cons (pe_tup (pa_cons pe_str (pa_cons (pe_fK DK_f_named_p1 (hr.mono (by omega)) (by rfl) pass0 (pa_cons pe_str pa_nil) pk_nil) (pa_cons (pv 0) pa_nil)))) pa_nil)))))), ?_⟩)
  · obtain ⟨_, _, rfl, _⟩ := h
    rfl
  · obtain ⟨v, t, rfl, hv, k⟩ := h
    try dsimp only [cxOf, Cx.nox, Cx.wish]
    change (_ : L2.TS) _ [some (v)] _
    refine w_start ?_
    have h2 : TmAt K H (.num 2) (.ref a_TWO) := ⟨_, rfl, .inr fun H => d_TWO H⟩
    repeat' (tm_at "rs")
    exact k _ _ (by tm_at "rsm") (by assumption)
/-! ### top -/
theorem ok_f_top {f : Addr} {fd : FuncData} (F : Fun K "top" "top" s_f_top f fd) {a_ONE : Addr}
    (D_f_power_at : Def P w K mg base CX0 "power_at" 2 ["steps"] (sp_f_power_at K))
    (DK_f_named_p1 : DefK P w K mg base CX0 "named" 1 ["letter", "number"] [] gk_f_named_p1 (sp_f_named K))
    (c_ONE : mg "ONE" = some (.ref a_ONE))
    (d_ONE : ∀ H : Hp, SqT K H a_ONE [V.str "num", V.int 1]) :
    FnG P w K mg base CX0 3 f fd [] (sp_f_top K) := by
  refine okG F sc_f_top (fun vs H Q E h => ?_) (fun cdv A outer s H vs Q E hr h => ⟨_, (pss_one (ps_ret (pe_f D_f_power_at (hr.mono (by omega)) (by rfl) pass0 (pa_cons (pe_tup (pa_cons pe_str (pa_cons (pe_fK DK_f_named_p1 (hr.mono (by omega)) (by rfl) pass0 (pa_cons pe_str pa_nil) pk_nil) (pa_cons (pe_glob (v := .ref a_ONE) rfl c_ONE rfl) pa_nil)))) pa_nil)))), ?_⟩)
  · obtain ⟨rfl, _⟩ := h
    rfl
  · obtain ⟨rfl, k⟩ := h
    try dsimp only [cxOf, Cx.nox, Cx.wish]
    change (_ : L2.TS) _ [] _
    refine w_start ?_
    have h1 : TmAt K H (.num 1) (.ref a_ONE) := ⟨_, rfl, .inr fun H => d_ONE H⟩
    repeat' (tm_at "rs")
    exact k _ _ (by tm_at "rsm") (by assumption)
/-! ### Program.__len__ -/
theorem ok_f_Program__len {f : Addr} {fd : FuncData} (F : Fun K "__len__" "Program.__len__" s_f_Program__len f fd)
    (m_len : mg "len" = none) :
    FnG P w K mg base CX0 1 f fd ["self"] (sp_f_Program__len K) := by
  refine okG F sc_f_Program__len (fun vs H Q E h => ?_) (fun cdv A outer s H vs Q E hr h => ⟨_, (pss_one (ps_ret (pe_callB (call_gLen (K := K) rfl) (by rfl) m_len PySem.boot_len (pa_cons (pe_fld (pv 0) rfl) pa_nil)))), ?_⟩)
  · obtain ⟨_, _, _, rfl, _⟩ := h
    rfl
  · obtain ⟨v, m, rs, rfl, hv, k⟩ := h
    try dsimp only [cxOf, Cx.nox, Cx.wish]
    change (_ : L2.TS) _ [some (v)] _
    refine w_start ?_
    repeat' (tm_at "rs")
    rename_i t us hT hR
    have hul : us.length = rs.length := paired_len hR
    rw [← hul] at k
    repeat' (tm_at "rs")
    exact k
/-! ### base_sayings -/
theorem ok_f_base_sayings {f : Addr} {fd : FuncData} (F : Fun K "base_sayings" "base_sayings" s_f_base_sayings f fd) {a_TWO : Addr} {a_ONE : Addr} {C_Saying : Addr} {C_Program : Addr}
    (D_f_sum_of : Def P w K mg base CX0 "sum_of" 1 ["terms"] (sp_f_sum_of K))
    (G_Saying : DefM P w K mg base CX0 "Saying" 1 ["self", "word", "left", "right"] (sp_f_Saying__init K) C_Saying)
    (SC_Saying : ClsN K "Saying" C_Saying ["word", "left", "right"])
    (D_f_top : Def P w K mg base CX0 "top" 3 [] (sp_f_top K))
    (M_Program_len : DefO P w K mg base CX0 C_Program "__len__" 1 ["self"] (sp_f_Program__len K))
    (SC_Program : ClsN K "Program" C_Program ["boxes", "rows"])
    (OC_Program : ClsO K C_Program)
    (DK_f_named_p1 : DefK P w K mg base CX0 "named" 1 ["letter", "number"] [] gk_f_named_p1 (sp_f_named K))
    (DK_f_named_p2 : DefK P w K mg base CX0 "named" 1 ["letter", "number"] [] gk_f_named_p2 (sp_f_named K))
    (m_range : mg "range" = none)
    (m_len : mg "len" = none)
    (c_TWO : mg "TWO" = some (.ref a_TWO))
    (d_TWO : ∀ H : Hp, SqT K H a_TWO [V.str "num", V.int 2])
    (c_ONE : mg "ONE" = some (.ref a_ONE))
    (d_ONE : ∀ H : Hp, SqT K H a_ONE [V.str "num", V.int 1]) :
    FnG P w K mg base CX0 4 f fd ["program"] (sp_f_base_sayings K) := by
  refine okG F sc_f_base_sayings (fun vs H Q E h => ?_) (fun cdv A outer s H vs Q E hr h => ⟨_, (pss_cons (ps_set (i := 1) sc_f_base_sayings.nd rfl (by first | exact Or.inl rfl | exact Or.inr rfl) (pe_f D_f_sum_of (hr.mono (by omega)) (by rfl) pass0 (pa_cons (pe_lc (own := _) rfl sc_f_base_sayings.nd (pi_range1 (by rfl) m_range (pa_cons (pe_fld (pv 0) rfl) pa_nil)) (blkOk_by (own := [("j", 2)]) (N := ["program", "xs", "j", "q", "h", "i", "found"]) (sc := defScope s_f_base_sayings) (by decide +kernel)) (fun _ _ _ _ _ => (pg_name (i := 2) sc_f_base_sayings.nd rfl (by first | exact Or.inl rfl | exact Or.inr rfl))) (fun _ _ _ _ _ => pts_nil) (fun _ _ _ _ _ => (pe_fK DK_f_named_p2 (hr.mono (by omega)) (by rfl) pass0 (pa_cons pe_str (pa_cons (pv 2) pa_nil)) pk_nil))) pa_nil)))
    (pss_cons (ps_par3 (i := 3) (j := 4) (l := 5) rfl sc_f_base_sayings.nd rfl rfl rfl (by decide) (by decide) (by decide) rfl rfl rfl (pa_cons (pe_fK DK_f_named_p1 (hr.mono (by omega)) (by rfl) pass0 (pa_cons pe_str pa_nil) pk_nil) (pa_cons (pe_fK DK_f_named_p1 (hr.mono (by omega)) (by rfl) pass0 (pa_cons pe_str pa_nil) pk_nil) (pa_cons (pe_fK DK_f_named_p1 (hr.mono (by omega)) (by rfl) pass0 (pa_cons pe_str pa_nil) pk_nil) pa_nil))) (by rfl))
    (pss_cons (ps_set (i := 6) sc_f_base_sayings.nd rfl (by first | exact Or.inl rfl | exact Or.inr rfl) (pe_lst (pa_cons (pe_mk G_Saying (hr.mono (by omega)) (by rfl) pass0 (pa_cons pe_str (pa_cons (pv 4) (pa_cons (pe_tup (pa_cons pe_str (pa_cons (pe_tup (pa_cons pe_str (pa_cons (pv 1) (pa_cons (pe_glob (v := .ref a_ONE) rfl c_ONE rfl) pa_nil)))) (pa_cons (pe_fK DK_f_named_p1 (hr.mono (by omega)) (by rfl) pass0 (pa_cons pe_str pa_nil) pk_nil) pa_nil)))) pa_nil)))) pa_nil)))
    (pss_cons (ps_expr (pe_gbm (K := K) rfl PySem.F.plainAttrs_list PySem.F.slot_list_append PySem.F.type_list_append mt_append (pv 6) (pa_cons (pe_mk G_Saying (hr.mono (by omega)) (by rfl) pass0 (pa_cons pe_str (pa_cons (pv 3) (pa_cons (pe_tup (pa_cons pe_str (pa_cons (pe_glob (v := .ref a_TWO) rfl c_TWO rfl) (pa_cons (pv 4) pa_nil)))) pa_nil)))) pa_nil)))
    (pss_cons (ps_expr (pe_gbm (K := K) rfl PySem.F.plainAttrs_list PySem.F.slot_list_append PySem.F.type_list_append mt_append (pv 6) (pa_cons (pe_mk G_Saying (hr.mono (by omega)) (by rfl) pass0 (pa_cons pe_str (pa_cons (pv 3) (pa_cons (pe_tup (pa_cons pe_str (pa_cons (pe_glob (v := .ref a_TWO) rfl c_TWO rfl) (pa_cons (pe_fK DK_f_named_p1 (hr.mono (by omega)) (by rfl) pass0 (pa_cons pe_str pa_nil) pk_nil) pa_nil)))) pa_nil)))) pa_nil)))
    (pss_cons (ps_expr (pe_gbm (K := K) rfl PySem.F.plainAttrs_list PySem.F.slot_list_append PySem.F.type_list_append mt_append (pv 6) (pa_cons (pe_mk G_Saying (hr.mono (by omega)) (by rfl) pass0 (pa_cons pe_str (pa_cons (pv 3) (pa_cons (pe_tup (pa_cons pe_str (pa_cons (pe_tup (pa_cons pe_str (pa_cons (pe_op (op_gAdd (K := K) rfl) (pe_callB (cr_lenO M_Program_len (hr.mono (by omega)) pass0) (by rfl) m_len PySem.boot_len (pa_cons (pv 0) pa_nil)) pe_int) pa_nil))) (pa_cons (pe_fK DK_f_named_p1 (hr.mono (by omega)) (by rfl) pass0 (pa_cons pe_str pa_nil) pk_nil) pa_nil)))) pa_nil)))) pa_nil)))
    (pss_cons (ps_expr (pe_gbm (K := K) rfl PySem.F.plainAttrs_list PySem.F.slot_list_append PySem.F.type_list_append mt_append (pv 6) (pa_cons (pe_mk G_Saying (hr.mono (by omega)) (by rfl) pass0 (pa_cons pe_str (pa_cons (pe_tup (pa_cons pe_str (pa_cons (pe_tup (pa_cons pe_str (pa_cons (pv 3) (pa_cons (pv 5) pa_nil)))) (pa_cons (pe_glob (v := .ref a_ONE) rfl c_ONE rfl) pa_nil)))) (pa_cons (pe_tup (pa_cons pe_str (pa_cons (pe_f0 D_f_top (hr.mono (by omega)) (by rfl) pass0) (pa_cons (pv 5) pa_nil)))) pa_nil)))) pa_nil)))
    (pss_cons (ps_expr (pe_gbm (K := K) rfl PySem.F.plainAttrs_list PySem.F.slot_list_append PySem.F.type_list_append mt_append (pv 6) (pa_cons (pe_mk G_Saying (hr.mono (by omega)) (by rfl) pass0 (pa_cons pe_str (pa_cons (pe_tup (pa_cons pe_str (pa_cons (pe_fK DK_f_named_p1 (hr.mono (by omega)) (by rfl) pass0 (pa_cons pe_str pa_nil) pk_nil) (pa_cons (pv 5) pa_nil)))) (pa_cons (pe_tup (pa_cons pe_str (pa_cons (pv 4) (pa_cons (pv 5) pa_nil)))) pa_nil)))) pa_nil)))
    (pss_one (ps_ret (pv 6))))))))))), ?_⟩)
  · obtain ⟨_, _, _, rfl, _⟩ := h
    rfl
  · obtain ⟨v, m, rs, rfl, hv, hm, hl, k⟩ := h
    try dsimp only [cxOf, Cx.nox, Cx.wish]
    change (_ : L2.TS) _ [some (v), none, none, none, none, none, none] _
    refine w_start ?_
    have h1 : TmAt K H (.num 1) (.ref a_ONE) := ⟨_, rfl, .inr fun H => d_ONE H⟩
    have h2 : TmAt K H (.num 2) (.ref a_TWO) := ⟨_, rfl, .inr fun H => d_TWO H⟩
    repeat' (tm_at "rs")
    refine lcR (fun D i H' => ∃ xs, H' D = some (.lst xs) ∧ xs.length = i ∧ TmsAt K H' xs ((List.range i).map fun j => .name (nmS "x" j)) ∧ Sm H H') ?_ ?_ ?_
    · exact fun D H' nD sm hD => ⟨[], hD, rfl, .nil, sm⟩
    · rintro D i H' nD hi ⟨xs, hD, hxl, hx, sm⟩
      have hx100 : xs.length ≤ 100 := by omega
      repeat' (tm_at "rs")
      refine call_nmJ (Int.zero_add _) (by omega) (by decide) (fun q H2 nq sq tq => ?_)
      have hD2 := sq _ _ hD
      repeat' (tm_at "rs")
      rename_i H3 k3 g3
      refine ⟨_, g3, by rw [List.length_append, hxl]; rfl, ?_, by tm_at "rsm"⟩
      rw [List.range_succ, List.map_append]
      exact ((hx.sm sq).add tq).kpL hD2 k3
    · rintro D H' nD ⟨xs, hD, hxl, hx, sm⟩
      rw [Int.toNat_natCast] at hx
      repeat' (tm_at "rs")
      refine call_sumOf hD hx (fun sv H1 s1 hsum => ?_)
      clear hx hD
      repeat' (tm_at "rs")
      exact k _ _ _ (by tm_at "rfr") (by tm_at "rsm") (by assumption) (by assumption)
/-! ### goal_of -/
theorem ok_f_goal_of {f : Addr} {fd : FuncData} (F : Fun K "goal_of" "goal_of" s_f_goal_of f fd) :
    FnG P w K mg base CX0 1 f fd ["program", "k"] (sp_f_goal_of K) := by
  refine okG F sc_f_goal_of (fun vs H Q E h => ?_) (fun cdv A outer s H vs Q E hr h => ⟨_, (pss_cons (ps_set (i := 2) sc_f_goal_of.nd rfl (by first | exact Or.inl rfl | exact Or.inr rfl) (pe_ix (ix_g (K := K) rfl) (pe_fld (pv 0) rfl) (pv 1) (fun _ _ => rfl)))
    (pss_cons (ps_if (pt_cmpR (op_gInSeq (K := K) rfl) (pe_ix (ix_g (K := K) rfl) (pv 2) pe_int (fun _ _ => rfl)) (pe_tup (pa_cons pe_str (pa_cons pe_str pa_nil))) (by rfl)) (pss_one (ps_ret (pe_ix (ix_g (K := K) rfl) (pv 2) (pe_un un_neg pe_int) (fun _ _ => rfl)))) pss_nil)
    (pss_one (ps_ret pe_non)))), ?_⟩)
  · obtain ⟨_, _, _, _, _, rfl, _⟩ := h
    rfl
  · obtain ⟨v, k, m, rs, r, rfl, hv, hk, kk⟩ := h
    try dsimp only [cxOf, Cx.nox, Cx.wish]
    change (_ : L2.TS) _ [some (v), some (.int (k : Nat)), none] _
    refine w_start ?_
    have e1 : r.word = Str.ofString "if" ∨ r.word = Str.ofString "go" → atI r.vs (-1) = some r.gv := by
      intro h
      cases r
      · exact absurd (show Str.ofString "raise" = Str.ofString "if" ∨ Str.ofString "raise" = Str.ofString "go" from h) (by decide +kernel)
      · exact absurd (show Str.ofString "lower" = Str.ofString "if" ∨ Str.ofString "lower" = Str.ofString "go" from h) (by decide +kernel)
      · rfl
      · rfl
      · exact absurd (show Str.ofString "stop" = Str.ofString "if" ∨ Str.ofString "stop" = Str.ofString "go" from h) (by decide +kernel)
    have e2 : ¬ (r.word = Str.ofString "if" ∨ r.word = Str.ofString "go") → r.gv = .non := by
      intro h
      cases r
      · rfl
      · rfl
      · exact absurd (Or.inl rfl) h
      · exact absurd (Or.inr rfl) h
      · rfl
    repeat' (tm_at "rs")
    rename_i t us ht hr p hp
    obtain ⟨zs, hz⟩ := r.vs_word
    have hz0 : r.vs[0]? = some (.str r.word) := by rw [hz]; rfl
    repeat' (tm_at "rs")
    refine w_ixT (st_of hp) (atI_nat (j := 0) hz0) ?_
    repeat' (tm_at "rs")
    · rename_i q H1 nq sq gq e
      refine w_ixT (st_of (sq _ _ hp)) (e1 e) ?_
      repeat' (tm_at "rs")
      exact kk _ sq
    · rename_i q H1 nq sq gq e
      rw [e2 e] at kk
      exact kk _ sq
/-! ### asked_boxes -/
theorem ok_f_asked_boxes {f : Addr} {fd : FuncData} (F : Fun K "asked_boxes" "asked_boxes" s_f_asked_boxes f fd)
    (D_f_goal_of : Def P w K mg base CX0 "goal_of" 1 ["program", "k"] (sp_f_goal_of K))
    (m_enumerate : mg "enumerate" = none)
    (m_sorted : mg "sorted" = none) :
    FnG P w K mg base CX0 2 f fd ["program"] (sp_f_asked_boxes K) := by
  refine okG F sc_f_asked_boxes (fun vs H Q E h => ?_) (fun cdv A outer s H vs Q E hr h => ⟨_, (pss_cons (ps_set (i := 1) sc_f_asked_boxes.nd rfl (by first | exact Or.inl rfl | exact Or.inr rfl) pe_dnewK)
    (pss_cons (ps_for PassesOwn.never rfl (pi_enT (by rfl) m_enumerate (pa_cons (pe_fld (pv 0) rfl) pa_nil)) (pg_gt (K := K) (n := 2) rfl rfl (pgs_cons (pg_name (i := 2) sc_f_asked_boxes.nd rfl (by first | exact Or.inl rfl | exact Or.inr rfl)) (pgs_cons (pg_name (i := 3) sc_f_asked_boxes.nd rfl (by first | exact Or.inl rfl | exact Or.inr rfl)) pgs_nil))) (pss_one (ps_if (PW.pt (pw_and (pt_cmpR (op_gEq (K := K) rfl hr.units) (pe_ix (ix_g (K := K) rfl) (pv 3) pe_int (fun _ _ => rfl)) pe_str (nomark _)) (pw_and1 (pt_cmpR (op_gNe (K := K) rfl hr.units) (pe_f D_f_goal_of (hr.mono (by omega)) (by rfl) pass0 (pa_cons (pv 0) (pa_cons (pv 2) pa_nil))) (pe_op (op_gAdd (K := K) rfl) (pv 2) pe_int) (nomark _))))) (pss_one (ps_dput (u_one hr.units) (pv 1) (pe_ix (ix_g (K := K) rfl) (pv 3) pe_int (fun _ _ => rfl)) pe_bl rfl)) pss_nil)))
    (pss_one (ps_ret (pe_callB (call_gSrtD rfl) (by rfl) m_sorted (by decide +kernel) (pa_cons (pv 1) pa_nil)))))), ?_⟩)
  · obtain ⟨_, _, _, rfl, _⟩ := h
    rfl
  · obtain ⟨v, m, rs, rfl, hv, ho, hl, k⟩ := h
    try dsimp only [cxOf, Cx.nox, Cx.wish]
    change (_ : L2.TS) _ [some (v), none, none, none] _
    refine w_start ?_
    repeat' (tm_at "rs")
    rename_i D H0 nD sD gD t us hT hR
    have hul : us.length = rs.length := paired_len hR
    have hv0 := hv.sm sD
    refine loopEt (xs := us) (fun i σ' H' => ∃ (x2 x3 : Option V) (kvs : List (Key × V)) (ks : List Nat), σ' = [some v, some (.ref D), x2, x3] ∧ Kp D H0 H' ∧ H' D = some (.dK kvs) ∧ kvs.map (·.1) = ks.map nKey ∧ ks.Nodup ∧ ks.length ≤ i ∧ ∀ j, j ∈ ks ↔ askB rs j i = true) ?_ ?_ ?_ ?_
    · exact ⟨_, _, [], [], rfl, Kp.refl _, gD, rfl, List.nodup_nil, Nat.le_refl _, fun j => by simp [askB]⟩
    · rintro i σ' H' hi ⟨x2, x3, kvs, ks, rfl, hk, hD, e, nd, l, hm⟩
      exact st_of (Tk.kd gD hk _ _ hT)
    · rintro i x T σ' H1 H2 hi hx ⟨x2, x3, kvs, ks, rfl, hk, hD, e, nd, l, hm⟩ nT sT gT
      obtain ⟨r, hri, p, rfl, hp⟩ := paired_get hR hx
      have tk : Tk H0 H2 := (Tk.kd gD hk).trans (Tk.sm sT)
      have hp2 := tk _ _ hp
      have hv2 : PrgAt K H2 v m rs := by
        obtain ⟨q, C, dx, t', vs, rfl, c, g, ht', hr'⟩ := hv0
        have qD : q ≠ D := fun z => by rw [z, gD] at g; cases g
        exact ⟨q, C, dx, t', vs, rfl, c, sT _ _ (hk _ _ qD g), tk _ _ ht', hr'.tk tk⟩
      have hD2 := sT _ _ hD
      have hkl : kvs.length ≤ 1000 := by
        have := congrArg List.length e
        rw [List.length_map, List.length_map] at this
        omega
      have stay : (∀ j, isAsk rs j i = false) → ∀ j, j ∈ ks ↔ askB rs j (i + 1) = true := fun h j => by
        rw [askB_succ, hm, h j, Bool.or_false]
      have kp2 : Kp D H0 H2 := Kp.trans hk (Kp.of sT)
      rcases r with j | j | ⟨j, g⟩ | g | _
      · have hp3 : H2 p = some (.tup [.str "raise", .int (j : Int)]) := hp2
        clear hp2
        repeat' (tm_at "rs")
        exact ⟨_, _, kvs, ks, rfl, kp2, hD2, e, nd, by omega, stay fun j => isAsk_no hri (by intro i g z; cases z)⟩
      · have hp3 : H2 p = some (.tup [.str "lower", .int (j : Int)]) := hp2
        clear hp2
        repeat' (tm_at "rs")
        exact ⟨_, _, kvs, ks, rfl, kp2, hD2, e, nd, by omega, stay fun j => isAsk_no hri (by intro i g z; cases z)⟩
      · have hp3 : H2 p = some (.tup [.str "if", .int (j : Int), .int (g : Int)]) := hp2
        clear hp2
        repeat' (tm_at "rs")
        rename_i H3 s3
        show gNe K (.int (g : Int)) (.int ((i : Int) + 1)) H3 _
        have hD3 := s3 _ _ hD2
        have hp4 := s3 _ _ hp3
        have kp3 : Kp D H0 H3 := Kp.trans kp2 (Kp.of s3)
        repeat' (tm_at "rs")
        · rename_i e2 H4 k4 g4
          have ha : isAsk rs j i = true := by
            rw [isAsk_br hri, decide_eq_true rfl, decide_eq_true (by omega)]
            rfl
          have oth : ∀ j', j' ≠ j → isAsk rs j' i = false := fun j' n => by
            rw [isAsk_br hri, decide_eq_false (fun z => n z.symm)]
            rfl
          have kp4 : Kp D H0 H4 := Kp.trans kp3 k4
          have g4' : H4 D = some (.dK (putK kvs (nKey j) (.bl true))) := g4
          by_cases hj : j ∈ ks
          · refine ⟨_, _, _, ks, rfl, kp4, g4', ?_, nd, by omega, fun j' => ?_⟩
            · rw [putK_old (by rw [e]; exact List.mem_map.mpr ⟨j, hj, rfl⟩), e]
            · rw [askB_succ, hm]
              by_cases q : j' = j
              · rw [q, ha, Bool.or_true, (hm j).mp hj]
              · rw [oth j' q, Bool.or_false]
          · refine ⟨_, _, _, ks ++ [j], rfl, kp4, g4', ?_, ?_, by rw [List.length_append]; show ks.length + 1 ≤ i + 1; omega, fun j' => ?_⟩
            · rw [putK_new (by
                rw [e]
                intro z
                obtain ⟨n, hn, q⟩ := List.mem_map.mp z
                exact hj (nKey_inj q ▸ hn)), e, List.map_append]
              rfl
            · refine List.nodup_append.mpr ⟨nd, by simp, fun x hx y hy => ?_⟩
              rw [List.mem_singleton.mp hy]
              exact fun q => hj (q ▸ hx)
            · rw [askB_succ, List.mem_append, List.mem_singleton, hm, Bool.or_eq_true]
              by_cases q : j' = j
              · rw [q, ha]
                simp
              · rw [oth j' q]
                simp [q]
        · rename_i e2
          have e3 : g = i + 1 := by omega
          exact ⟨_, _, kvs, ks, rfl, kp3, hD3, e, nd, by omega, stay fun j' => by
            rw [isAsk_br hri, decide_eq_false (p := g ≠ i + 1) (by omega), Bool.and_false]⟩
      · have hp3 : H2 p = some (.tup [.str "go", .int (g : Int)]) := hp2
        clear hp2
        repeat' (tm_at "rs")
        exact ⟨_, _, kvs, ks, rfl, kp2, hD2, e, nd, by omega, stay fun j => isAsk_no hri (by intro i g z; cases z)⟩
      · have hp3 : H2 p = some (.tup [.str "stop"]) := hp2
        clear hp2
        repeat' (tm_at "rs")
        exact ⟨_, _, kvs, ks, rfl, kp2, hD2, e, nd, by omega, stay fun j => isAsk_no hri (by intro i g z; cases z)⟩
    · rintro σ' H' ⟨x2, x3, kvs, ks, rfl, hk, hD, e, nd, l, hm⟩
      rw [hul] at l hm
      repeat' (tm_at "rs")
      refine w_srtD (l := asked m rs) hD e (by omega) nd asked_pw (fun j => ?_) (fun p H3 np s3 g3 => ?_)
      · rw [hm, asked, List.mem_filter, List.mem_range]
        exact ⟨fun h => ⟨askB_lt ho h, h⟩, fun h => h.2⟩
      · have sm := sm_mut sD nD hk
        repeat' (tm_at "rs")
        exact k p H3 (Same.free sm np) (sm.trans s3) g3
/-! ### rows_named -/
theorem ok_f_rows_named {f : Addr} {fd : FuncData} (F : Fun K "rows_named" "rows_named" s_f_rows_named f fd)
    (DK_f_named_p2 : DefK P w K mg base CX0 "named" 1 ["letter", "number"] [] gk_f_named_p2 (sp_f_named K)) :
    FnG P w K mg base CX0 2 f fd ["rows"] (sp_f_rows_named K) := by
  refine okG F sc_f_rows_named (fun vs H Q E h => ?_) (fun cdv A outer s H vs Q E hr h => ⟨_, (pss_one (ps_ret (pe_lc (own := _) rfl sc_f_rows_named.nd (pi_gl (K := K) rfl (pv 0)) (blkOk_by (own := [("k", 1)]) (N := ["rows", "k"]) (sc := defScope s_f_rows_named) (by decide +kernel)) (fun _ _ _ _ _ => (pg_name (i := 1) sc_f_rows_named.nd rfl (by first | exact Or.inl rfl | exact Or.inr rfl))) (fun _ _ _ _ _ => pts_nil) (fun _ _ _ _ _ => (pe_fK DK_f_named_p2 (hr.mono (by omega)) (by rfl) pass0 (pa_cons pe_str (pa_cons (pv 1) pa_nil)) pk_nil))))), ?_⟩)
  · obtain ⟨_, _, rfl, _⟩ := h
    rfl
  · obtain ⟨p, l, rfl, hp, hl, hn, k⟩ := h
    try dsimp only [cxOf, Cx.nox, Cx.wish]
    change (_ : L2.TS) _ [some (.ref p), none] _
    refine w_start ?_
    repeat' (tm_at "rs")
    refine lcLs (xs := nV l) (fun D i H' => ∃ xs, H' D = some (.lst xs) ∧ xs.length = i ∧ TmsAt K H' xs (lsT (l.take i)) ∧ Sm H H') ?_ ?_ ?_ ?_
    · exact fun D H' nD sm hD => ⟨[], hD, rfl, .nil, sm⟩
    · rintro D i H' nD hi ⟨xs, hD, hxl, hx, sm⟩
      exact sq_of (sm _ _ hp)
    · rintro D i x H' nD hi ⟨xs, hD, hxl, hx, sm⟩
      obtain ⟨n, hln, rfl⟩ : ∃ n : Nat, l[i]? = some n ∧ x = .int (n : Nat) := by
        unfold nV at hi
        rw [List.getElem?_map] at hi
        cases e : l[i]? with
        | none => rw [e] at hi; cases hi
        | some n => rw [e] at hi; exact ⟨n, rfl, (Option.some.inj hi).symm⟩
      have h1 := hn n (List.mem_of_getElem? hln)
      have hil := (List.getElem?_eq_some_iff.mp hln).1
      have htk : l.take (i + 1) = l.take i ++ [n] := by rw [List.take_succ, hln]; rfl
      have hx100 : xs.length ≤ 100 := by omega
      repeat' (tm_at "rs")
      rename_i q H2 nq sq tq H3 k3 g3
      have hD2 := sq _ _ hD
      refine ⟨_, g3, by rw [List.length_append, hxl]; rfl, ?_, by tm_at "rsm"⟩
      rw [htk]
      unfold lsT
      rw [List.map_append]
      exact ((hx.sm sq).add tq).kpL hD2 k3
    · rintro D H' nD ⟨xs, hD, hxl, hx, sm⟩
      rw [nV_len, List.take_length] at hx
      exact k _ xs _ nD sm hD hx
/-! ### time_sayings -/
theorem ok_f_time_sayings {f : Addr} {fd : FuncData} (F : Fun K "time_sayings" "time_sayings" s_f_time_sayings f fd) {a_ONE : Addr} {a_TWO : Addr} {C_Saying : Addr} {C_Program : Addr}
    (D_f_asked_boxes : Def P w K mg base CX0 "asked_boxes" 2 ["program"] (sp_f_asked_boxes K))
    (G_Saying : DefM P w K mg base CX0 "Saying" 1 ["self", "word", "left", "right"] (sp_f_Saying__init K) C_Saying)
    (SC_Saying : ClsN K "Saying" C_Saying ["word", "left", "right"])
    (D_f_sum_of : Def P w K mg base CX0 "sum_of" 1 ["terms"] (sp_f_sum_of K))
    (D_f_power_at : Def P w K mg base CX0 "power_at" 2 ["steps"] (sp_f_power_at K))
    (D_f_rows_named : Def P w K mg base CX0 "rows_named" 2 ["rows"] (sp_f_rows_named K))
    (M_Program_len : DefO P w K mg base CX0 C_Program "__len__" 1 ["self"] (sp_f_Program__len K))
    (SC_Program : ClsN K "Program" C_Program ["boxes", "rows"])
    (OC_Program : ClsO K C_Program)
    (DK_f_named_p2 : DefK P w K mg base CX0 "named" 1 ["letter", "number"] [] gk_f_named_p2 (sp_f_named K))
    (DK_f_named_p1 : DefK P w K mg base CX0 "named" 1 ["letter", "number"] [] gk_f_named_p1 (sp_f_named K))
    (m_list : mg "list" = none)
    (m_range : mg "range" = none)
    (m_len : mg "len" = none)
    (c_ONE : mg "ONE" = some (.ref a_ONE))
    (d_ONE : ∀ H : Hp, SqT K H a_ONE [V.str "num", V.int 1])
    (c_TWO : mg "TWO" = some (.ref a_TWO))
    (d_TWO : ∀ H : Hp, SqT K H a_TWO [V.str "num", V.int 2]) :
    FnG P w K mg base CX0 3 f fd ["program"] (sp_f_time_sayings K) := by
  refine okG F sc_f_time_sayings (fun vs H Q E h => ?_) (fun cdv A outer s H vs Q E hr h => ⟨_, (pss_cons (ps_set (i := 1) sc_f_time_sayings.nd rfl (by first | exact Or.inl rfl | exact Or.inr rfl) (pe_listRg rfl (by rfl) m_list (prg_1 (by rfl) m_range (pe_callB (cr_lenO M_Program_len (hr.mono (by omega)) pass0) (by rfl) m_len PySem.boot_len (pa_cons (pv 0) pa_nil)))))
    (pss_cons (ps_setLc (i := 2) rfl sc_f_time_sayings.nd rfl rfl (sw_true rfl rfl rfl (by decide +kernel)) (pi_gl (K := K) rfl (pv 1)) (blkOk_by (own := [("k", 3)]) (N := ["program", "rows", "stops", "k", "found", "j", "twice"]) (sc := defScope s_f_time_sayings) (by decide +kernel)) (fun _ _ _ _ _ => (pg_name (i := 3) sc_f_time_sayings.nd rfl (by first | exact Or.inl rfl | exact Or.inr rfl))) (fun _ _ _ _ _ => pts_one (pt_cmpR (op_gEq (K := K) rfl hr.units) (pe_ix (ix_g (K := K) rfl) (pe_ix (ix_g (K := K) rfl) (pe_fldK (K := K) rfl (pv 0) rfl) (pv 3) (fun _ _ => rfl)) pe_int (fun _ _ => rfl)) pe_str (nomark _))) (fun _ _ _ _ _ => (pv 3)))
    (pss_cons (ps_setLc (i := 4) rfl sc_f_time_sayings.nd rfl rfl (sw_true rfl rfl rfl (by decide +kernel)) (pi_range1 (by rfl) m_range (pa_cons (pe_fld (pv 0) rfl) pa_nil)) (blkOk_by (own := [("j", 5)]) (N := ["program", "rows", "stops", "k", "found", "j", "twice"]) (sc := defScope s_f_time_sayings) (by decide +kernel)) (fun _ _ _ _ _ => (pg_name (i := 5) sc_f_time_sayings.nd rfl (by first | exact Or.inl rfl | exact Or.inr rfl))) (fun _ _ _ _ _ => pts_nil) (fun _ _ _ _ _ => (pe_mk G_Saying (hr.mono (by omega)) (by rfl) pass0 (pa_cons pe_str (pa_cons (pe_fK DK_f_named_p2 (hr.mono (by omega)) (by rfl) pass0 (pa_cons pe_str (pa_cons (pv 5) pa_nil)) pk_nil) (pa_cons (pe_fK DK_f_named_p1 (hr.mono (by omega)) (by rfl) pass0 (pa_cons pe_str pa_nil) pk_nil) pa_nil))))))
    (pss_cons (ps_expr (pe_gbm (K := K) rfl PySem.F.plainAttrs_list PySem.F.slot_list_extend PySem.F.type_list_extend mt_extend (pv 4) (pa_cons (pe_lc (own := _) rfl sc_f_time_sayings.nd (pi_gl (K := K) rfl (pv 1)) (blkOk_by (own := [("k", 3)]) (N := ["program", "rows", "stops", "k", "found", "j", "twice"]) (sc := defScope s_f_time_sayings) (by decide +kernel)) (fun _ _ _ _ _ => (pg_name (i := 3) sc_f_time_sayings.nd rfl (by first | exact Or.inl rfl | exact Or.inr rfl))) (fun _ _ _ _ _ => pts_nil) (fun _ _ _ _ _ => (pe_mk G_Saying (hr.mono (by omega)) (by rfl) pass0 (pa_cons pe_str (pa_cons (pe_fK DK_f_named_p2 (hr.mono (by omega)) (by rfl) pass0 (pa_cons pe_str (pa_cons (pv 3) pa_nil)) pk_nil) (pa_cons (pe_fK DK_f_named_p1 (hr.mono (by omega)) (by rfl) pass0 (pa_cons pe_str pa_nil) pk_nil) pa_nil)))))) pa_nil)))
    (pss_cons (ps_expr (pe_gbm (K := K) rfl PySem.F.plainAttrs_list PySem.F.slot_list_append PySem.F.type_list_append mt_append (pv 4) (pa_cons (pe_mk G_Saying (hr.mono (by omega)) (by rfl) pass0 (pa_cons pe_str (pa_cons (pe_f D_f_sum_of (hr.mono (by omega)) (by rfl) pass0 (pa_cons (pe_f D_f_rows_named (hr.mono (by omega)) (by rfl) pass0 (pa_cons (pv 1) pa_nil)) pa_nil)) (pa_cons (pe_fK DK_f_named_p1 (hr.mono (by omega)) (by rfl) pass0 (pa_cons pe_str pa_nil) pk_nil) pa_nil)))) pa_nil)))
    (pss_cons (ps_expr (pe_gbm (K := K) rfl PySem.F.plainAttrs_list PySem.F.slot_list_append PySem.F.type_list_append mt_append (pv 4) (pa_cons (pe_mk G_Saying (hr.mono (by omega)) (by rfl) pass0 (pa_cons pe_str (pa_cons (pe_glob (v := .ref a_ONE) rfl c_ONE rfl) (pa_cons (pe_fK DK_f_named_p2 (hr.mono (by omega)) (by rfl) pass0 (pa_cons pe_str (pa_cons pe_int pa_nil)) pk_nil) pa_nil)))) pa_nil)))
    (pss_cons (ps_expr (pe_gbm (K := K) rfl PySem.F.plainAttrs_list PySem.F.slot_list_append PySem.F.type_list_append mt_append (pv 4) (pa_cons (pe_mk G_Saying (hr.mono (by omega)) (by rfl) pass0 (pa_cons pe_str (pa_cons (pe_f D_f_sum_of (hr.mono (by omega)) (by rfl) pass0 (pa_cons (pe_f D_f_rows_named (hr.mono (by omega)) (by rfl) pass0 (pa_cons (pv 2) pa_nil)) pa_nil)) (pa_cons (pe_f D_f_power_at (hr.mono (by omega)) (by rfl) pass0 (pa_cons (pe_fK DK_f_named_p1 (hr.mono (by omega)) (by rfl) pass0 (pa_cons pe_str pa_nil) pk_nil) pa_nil)) pa_nil)))) pa_nil)))
    (pss_cons (ps_for PassesOwn.never rfl (pi_gl (K := K) rfl (pe_f D_f_asked_boxes (hr.mono (by omega)) (by rfl) pass0 (pa_cons (pv 0) pa_nil))) (pg_name (i := 5) sc_f_time_sayings.nd rfl (by first | exact Or.inl rfl | exact Or.inr rfl)) (pss_cons (ps_set (i := 6) sc_f_time_sayings.nd rfl (by first | exact Or.inl rfl | exact Or.inr rfl) (pe_tup (pa_cons pe_str (pa_cons (pe_glob (v := .ref a_TWO) rfl c_TWO rfl) (pa_cons (pe_fK DK_f_named_p2 (hr.mono (by omega)) (by rfl) pass0 (pa_cons pe_str (pa_cons (pv 5) pa_nil)) pk_nil) pa_nil)))))
    (pss_one (ps_expr (pe_gbm (K := K) rfl PySem.F.plainAttrs_list PySem.F.slot_list_append PySem.F.type_list_append mt_append (pv 4) (pa_cons (pe_mk G_Saying (hr.mono (by omega)) (by rfl) pass0 (pa_cons pe_str (pa_cons (pe_tup (pa_cons pe_str (pa_cons (pe_fK DK_f_named_p2 (hr.mono (by omega)) (by rfl) pass0 (pa_cons pe_str (pa_cons (pv 5) pa_nil)) pk_nil) (pa_cons (pv 6) pa_nil)))) (pa_cons (pe_tup (pa_cons pe_str (pa_cons (pe_fK DK_f_named_p1 (hr.mono (by omega)) (by rfl) pass0 (pa_cons pe_str pa_nil) pk_nil) (pa_cons (pe_fK DK_f_named_p1 (hr.mono (by omega)) (by rfl) pass0 (pa_cons pe_str pa_nil) pk_nil) pa_nil)))) pa_nil)))) pa_nil))))))
    (pss_one (ps_ret (pv 4))))))))))), ?_⟩)
  · obtain ⟨_, _, _, rfl, _⟩ := h
    rfl
  · obtain ⟨v, m, rs, rfl, hv, hm, ho, hl, k⟩ := h
    try dsimp only [cxOf, Cx.nox, Cx.wish]
    change (_ : L2.TS) _ [some (v), none, none, none, none, none, none] _
    refine w_start ?_
    have h1 : TmAt K H (.num 1) (.ref a_ONE) := ⟨_, rfl, .inr fun H => d_ONE H⟩
    have h2 : TmAt K H (.num 2) (.ref a_TWO) := ⟨_, rfl, .inr fun H => d_TWO H⟩
    repeat' (tm_at "rs")
    rename_i L H1 nL s1 g1
    refine lcLs (xs := nV (List.range rs.length)) (fun D i H' => H' D = some (.lst (nV (stpK rs i))) ∧ Sm H1 H') ?_ ?_ ?_ ?_
    · exact fun D H' nD sm hD => ⟨hD, sm⟩
    · rintro D i H' nD hi ⟨hD, sm⟩
      exact sq_of (sm _ _ g1)
    · rintro D i x H' nD hi ⟨hD, sm⟩
      obtain ⟨hin, rfl⟩ := nVr_get hi
      have hsl : (nV (stpK rs i)).length ≤ 100 := by rw [nV_len]; have := stpK_len rs i; omega
      obtain ⟨r, hr⟩ : ∃ r, rs[i]? = some r := ⟨_, List.getElem?_eq_some_iff.mpr ⟨hin, rfl⟩⟩
      rw [stpK_succ, hr]
      repeat' (tm_at "rs")
      rename_i t us ht hR p hp
      rcases r with j | j | ⟨j, g⟩ | g | _
      · have hp3 : H' p = some (.tup [.str "raise", .int (j : Int)]) := hp
        clear hp
        rw [if_neg (fun h => by cases h), List.append_nil]
        repeat' (tm_at "rs")
        exact ⟨hD, sm⟩
      · have hp3 : H' p = some (.tup [.str "lower", .int (j : Int)]) := hp
        clear hp
        rw [if_neg (fun h => by cases h), List.append_nil]
        repeat' (tm_at "rs")
        exact ⟨hD, sm⟩
      · have hp3 : H' p = some (.tup [.str "if", .int (j : Int), .int (g : Int)]) := hp
        clear hp
        rw [if_neg (fun h => by cases h), List.append_nil]
        repeat' (tm_at "rs")
        exact ⟨hD, sm⟩
      · have hp3 : H' p = some (.tup [.str "go", .int (g : Int)]) := hp
        clear hp
        rw [if_neg (fun h => by cases h), List.append_nil]
        repeat' (tm_at "rs")
        exact ⟨hD, sm⟩
      · have hp3 : H' p = some (.tup [.str "stop"]) := hp
        clear hp
        rw [if_pos rfl]
        repeat' (tm_at "rs")
        rename_i H3 k3 g3
        exact ⟨by rw [nV_app]; exact g3, by tm_at "rsm"⟩
    · rintro D H' nD ⟨hD, sm⟩
      rw [nV_len, List.length_range] at hD
      have g1' := sm _ _ g1
      repeat' (tm_at "rs")
      refine lcR (fun F i H2 => ∃ xs, H2 F = some (.lst xs) ∧ xs.length = i ∧ SysAt K H2 xs ((List.range i).map fun j => undr (.name (nmS "r" j)) (.name "m")) ∧ Sm H' H2) ?_ ?_ ?_
      · exact fun F H2 nF sm hF => ⟨[], hF, rfl, .nil, sm⟩
      · rintro F i H2 nF hi ⟨xs, hF, hxl, hx, sm2⟩
        have hx100 : xs.length ≤ 100 := by omega
        repeat' (tm_at "rs")
        refine call_nmJ (Int.zero_add _) (by omega) (by decide) (fun q H3 nq sq tq => ?_)
        have hF3 := sq _ _ hF
        repeat' (tm_at "rs")
        rename_i H5 n5 s5 hsy H6 k6 g6
        have e5 : Sm H2 H5 := by tm_at "rsm"
        refine ⟨_, g6, by rw [List.length_append, hxl]; rfl, ?_, by tm_at "rsm"⟩
        rw [map_rs]
        exact ((hx.sm e5).one hsy).kpL (e5 _ _ hF) k6
      · rintro F H2 nF ⟨xs, hF, hxl, hx, sm2⟩
        rw [Int.toNat_natCast] at hx hxl
        have g12 := sm2 _ _ g1'
        repeat' (tm_at "rs")
        refine lcLs (xs := nV (List.range rs.length)) (fun G i H3 => ∃ ys, H3 G = some (.lst ys) ∧ ys.length = i ∧ SysAt K H3 ys ((List.range i).map fun j => undr (.name (nmS "l" j)) (.name "i")) ∧ Sm H2 H3) ?_ ?_ ?_ ?_
        · exact fun G H3 nG sm hG => ⟨[], hG, rfl, .nil, sm⟩
        · rintro G i H3 nG hi ⟨ys, hG, hyl, hy, sm3⟩
          exact sq_of (sm3 _ _ g12)
        · rintro G i x H3 nG hi ⟨ys, hG, hyl, hy, sm3⟩
          obtain ⟨hin, rfl⟩ := nVr_get hi
          have hy100 : ys.length ≤ 100 := by omega
          repeat' (tm_at "rs")
          rename_i H5 n5 s5 hsy H6 k6 g6
          have e5 : Sm H3 H5 := by tm_at "rsm"
          refine ⟨_, g6, by rw [List.length_append, hyl]; rfl, ?_, by tm_at "rsm"⟩
          rw [map_rs]
          exact ((hy.sm e5).one hsy).kpL (e5 _ _ hG) k6
        · rintro G H3 nG ⟨ys, hG, hyl, hy, sm3⟩
          rw [nV_len, List.length_range] at hyl hy
          have LF : L ≠ F := ne_of_none g1' nF
          have DF : D ≠ F := ne_of_none hD nF
          repeat' (tm_at "rs")
          rename_i H4 zs k4 g4 hz zl
          have gL4 : H4 L = some (.lst (nV (List.range rs.length))) := k4 _ _ LF (sm3 _ _ g12)
          refine call_rowsNamed gL4 (by rw [List.length_range]; omega) (fun n hn => by have := List.mem_range.mp hn; omega) (fun X xs5 H5 nX s5 gX hX => ?_)
          repeat' (tm_at "rs")
          refine call_sumOf gX hX (fun lv H6 s6 hlv => ?_)
          repeat' (tm_at "rs")
          refine call_nmJ (j := 0) rfl (by omega) (by decide) (fun q0 H7 nq0 sq0 tq0 => ?_)
          repeat' (tm_at "rs")
          rename_i H8 ws k8 g8 hws wl
          have gD8 : H8 D = some (.lst (nV (stpK rs rs.length))) := by tm_at "rlk"
          have hsk := stpK_len rs rs.length
          refine call_rowsNamed gD8 (by omega) (fun n hn => by have := List.mem_range.mp (List.mem_filter.mp hn).1; omega) (fun Y ys5 H9 nY s9 gY hY => ?_)
          repeat' (tm_at "rs")
          refine call_sumOf gY hY (fun sv H10 s10 hsv => ?_)
          repeat' (tm_at "rs")
          rename_i H11 us k11 g11 hus ul
          have hv11 : PrgAt K H11 v m rs := by tm_at "rpg"
          have h2' : TmAt K H11 (.num 2) (.ref a_TWO) := ⟨_, rfl, .inr fun H => d_TWO H⟩
          have fin : Kp F H H11 := by tm_at "rkp"
          refine call_askedBoxes hv11 ho hl (fun AL H12 nA s12 gA => ?_)
          have hasl := asked_le m rs
          have AF : AL ≠ F := fun z => by rw [z, g11] at nA; cases nA
          have gF12 := s12 _ _ g11
          have hus12 := hus.sm s12
          clear hsv hlv hus hws hz gX gY hX hY gD8 gL4 g8 g4 hy hx hG hF h1 h2
          clear g1' hD
          obtain ⟨B, hB⟩ : ∃ B : List SyW, B = (List.range m).map (fun j => undr (.name (nmS "r" j)) (.name "m")) ++ (List.range rs.length).map (fun k => undr (.name (nmS "l" k)) (.name "i")) ++ [same (sumT (lsT (List.range rs.length))) (.name "i")] ++ [undr (.num 1) (.name (nmS "l" 0))] ++ [same (sumT (lsT (stpK rs rs.length))) (pwAt (.name "s"))] := ⟨_, rfl⟩
          have hus13 : SysAt K H12 us B := by rw [hB]; exact hus12
          clear hus12
          repeat' (tm_at "rs")
          refine loopL (xs := nV (asked m rs)) (fun i σ' H' => ∃ (x5 x6 : Option V) (zs : List V), σ' = [some v, some (.ref L), some (.ref D), none, some (.ref F), x5, x6] ∧ Kp F H12 H' ∧ H' F = some (.lst zs) ∧ zs.length = us.length + i ∧ SysAt K H' zs (B ++ ((asked m rs).take i).map fun j => same (.op "plus" (.name (nmS "e" j)) (.op "times" (.num 2) (.name (nmS "r" j)))) (.op "times" (.name "q") (.name "i")))) ⟨_, _, us, rfl, Kp.refl _, gF12, rfl, by rw [List.take_zero, List.map_nil, List.append_nil]; exact hus13⟩ ?_ ?_ ?_
          · rintro i σ' H' hi ⟨x5, x6, zs, rfl, kF, gF, zl, hz⟩
            exact sq_of (kF _ _ AF gA)
          · rintro i x σ' H' hi ⟨x5, x6, zs, rfl, kF, gF, zl, hz⟩
            obtain ⟨j, hj, rfl⟩ := nV_gt hi
            have hil := (List.getElem?_eq_some_iff.mp hj).1
            have hjm : j < m := List.mem_range.mp (List.mem_filter.mp (List.mem_of_getElem? hj)).1
            have htk : (asked m rs).take (i + 1) = (asked m rs).take i ++ [j] := by rw [List.take_succ, hj]; rfl
            rw [htk, List.map_append, ← List.append_assoc]
            have h2 : TmAt K H' (.num 2) (.ref a_TWO) := ⟨_, rfl, .inr fun H => d_TWO H⟩
            have hzl : zs.length ≤ 100 := by omega
            repeat' (tm_at "rs")
            rename_i H9 ws k9 g9 hws wl
            exact ⟨_, _, ws, rfl, by tm_at "rkp", g9, by omega, hws⟩
          · rintro σ' H' ⟨x5, x6, zs, rfl, kF, gF, zl, hz⟩
            rw [nV_len, List.take_length, hB] at hz
            have kk : Kp F H H' := fin.trans ((Kp.of s12).trans kF)
            have nF0 : H F = none := by tm_at "rfr"
            repeat' (tm_at "rs")
            exact k _ zs _ nF0 (sm_mut (Same.refl _) nF0 kk) gF hz
/-! ### row_sayings -/
theorem ok_f_row_sayings {f : Addr} {fd : FuncData} (F : Fun K "row_sayings" "row_sayings" s_f_row_sayings f fd) {C_Saying : Addr}
    (G_Saying : DefM P w K mg base CX0 "Saying" 1 ["self", "word", "left", "right"] (sp_f_Saying__init K) C_Saying)
    (SC_Saying : ClsN K "Saying" C_Saying ["word", "left", "right"])
    (D_f_goal_of : Def P w K mg base CX0 "goal_of" 1 ["program", "k"] (sp_f_goal_of K))
    (DK_f_named_p2 : DefK P w K mg base CX0 "named" 1 ["letter", "number"] [] gk_f_named_p2 (sp_f_named K))
    (DK_f_named_p1 : DefK P w K mg base CX0 "named" 1 ["letter", "number"] [] gk_f_named_p1 (sp_f_named K)) :
    FnG P w K mg base CX0 3 f fd ["program", "k"] (sp_f_row_sayings K) := by
  refine okG F sc_f_row_sayings (fun vs H Q E h => ?_) (fun cdv A outer s H vs Q E hr h => ⟨_, (pss_cons (ps_set (i := 2) sc_f_row_sayings.nd rfl (by first | exact Or.inl rfl | exact Or.inr rfl) (pe_ix (ix_g (K := K) rfl) (pe_fld (pv 0) rfl) (pv 1) (fun _ _ => rfl)))
    (pss_cons (ps_if (pt_cmpR (op_gEq (K := K) rfl hr.units) (pe_ix (ix_g (K := K) rfl) (pv 2) pe_int (fun _ _ => rfl)) pe_str (nomark _)) (pss_one (ps_ret (pe_lst pa_nil))) pss_nil)
    (pss_cons (ps_set (i := 3) sc_f_row_sayings.nd rfl (by first | exact Or.inl rfl | exact Or.inr rfl) (pe_tup (pa_cons pe_str (pa_cons (pe_fK DK_f_named_p1 (hr.mono (by omega)) (by rfl) pass0 (pa_cons pe_str pa_nil) pk_nil) (pa_cons (pe_fK DK_f_named_p2 (hr.mono (by omega)) (by rfl) pass0 (pa_cons pe_str (pa_cons (pv 1) pa_nil)) pk_nil) pa_nil)))))
    (pss_cons (ps_if (pt_cmpR (op_gEq (K := K) rfl hr.units) (pe_ix (ix_g (K := K) rfl) (pv 2) pe_int (fun _ _ => rfl)) pe_str (nomark _)) (pss_one (ps_ret (pe_lst (pa_cons (pe_mk G_Saying (hr.mono (by omega)) (by rfl) pass0 (pa_cons pe_str (pa_cons (pv 3) (pa_cons (pe_fK DK_f_named_p2 (hr.mono (by omega)) (by rfl) pass0 (pa_cons pe_str (pa_cons (pe_f D_f_goal_of (hr.mono (by omega)) (by rfl) pass0 (pa_cons (pv 0) (pa_cons (pv 1) pa_nil))) pa_nil)) pk_nil) pa_nil)))) pa_nil)))) pss_nil)
    (pss_cons (ps_set (i := 4) sc_f_row_sayings.nd rfl (by first | exact Or.inl rfl | exact Or.inr rfl) (pe_fK DK_f_named_p2 (hr.mono (by omega)) (by rfl) pass0 (pa_cons pe_str (pa_cons (pe_op (op_gAdd (K := K) rfl) (pv 1) pe_int) pa_nil)) pk_nil))
    (pss_cons (ps_if (PW.pt (pw_or (pt_cmpR (op_gNe (K := K) rfl hr.units) (pe_ix (ix_g (K := K) rfl) (pv 2) pe_int (fun _ _ => rfl)) pe_str (nomark _)) (pw_or1 (pt_cmpR (op_gEq (K := K) rfl hr.units) (pe_f D_f_goal_of (hr.mono (by omega)) (by rfl) pass0 (pa_cons (pv 0) (pa_cons (pv 1) pa_nil))) (pe_op (op_gAdd (K := K) rfl) (pv 1) pe_int) (nomark _))))) (pss_one (ps_ret (pe_lst (pa_cons (pe_mk G_Saying (hr.mono (by omega)) (by rfl) pass0 (pa_cons pe_str (pa_cons (pv 3) (pa_cons (pv 4) pa_nil)))) pa_nil)))) pss_nil)
    (pss_cons (ps_set (i := 5) sc_f_row_sayings.nd rfl (by first | exact Or.inl rfl | exact Or.inr rfl) (pe_tup (pa_cons pe_str (pa_cons (pe_fK DK_f_named_p2 (hr.mono (by omega)) (by rfl) pass0 (pa_cons pe_str (pa_cons (pe_f D_f_goal_of (hr.mono (by omega)) (by rfl) pass0 (pa_cons (pv 0) (pa_cons (pv 1) pa_nil))) pa_nil)) pk_nil) (pa_cons (pv 4) pa_nil)))))
    (pss_one (ps_ret (pe_lst (pa_cons (pe_mk G_Saying (hr.mono (by omega)) (by rfl) pass0 (pa_cons pe_str (pa_cons (pv 3) (pa_cons (pv 5) pa_nil)))) (pa_cons (pe_mk G_Saying (hr.mono (by omega)) (by rfl) pass0 (pa_cons pe_str (pa_cons (pv 3) (pa_cons (pe_tup (pa_cons pe_str (pa_cons (pv 4) (pa_cons (pe_fK DK_f_named_p2 (hr.mono (by omega)) (by rfl) pass0 (pa_cons pe_str (pa_cons (pe_ix (ix_g (K := K) rfl) (pv 2) pe_int (fun _ _ => rfl)) pa_nil)) pk_nil) pa_nil)))) pa_nil)))) pa_nil)))))))))))), ?_⟩)
  · obtain ⟨_, _, _, _, _, rfl, _⟩ := h
    rfl
  · obtain ⟨v, m, j, rs, r, rfl, hv, hj, hm, ho, hl, k⟩ := h
    try dsimp only [cxOf, Cx.nox, Cx.wish]
    change (_ : L2.TS) _ [some (v), some (.int (j : Nat)), none, none, none, none] _
    refine w_start ?_
    have hj14 : j < rs.length := (List.getElem?_eq_some_iff.mp hj).1
    repeat' (tm_at "rs")
    rename_i t us ht hR p hp
    rcases r with i | i | ⟨i, g⟩ | g | _
    · have hp3 : H p = some (.tup [.str "raise", .int (i : Int)]) := hp
      have e : rowS rs j = [undr (.op "times" (.name "q") (.name (nmS "l" j))) (.name (nmS "l" (j + 1)))] := by unfold rowS; rw [hj]
      clear hp
      repeat' (tm_at "rs")
      refine call_nmJ (j := j + 1) rfl (by omega) (by decide) (fun q H2 nq sq tq => ?_)
      repeat' (tm_at "rs")
      exact k _ _ _ (by tm_at "rfr") (by tm_at "rsm") (by assumption) (by rw [e]; assumption)
    · have hp3 : H p = some (.tup [.str "lower", .int (i : Int)]) := hp
      have e : rowS rs j = [undr (.op "times" (.name "q") (.name (nmS "l" j))) (.name (nmS "l" (j + 1)))] := by unfold rowS; rw [hj]
      clear hp
      repeat' (tm_at "rs")
      refine call_nmJ (j := j + 1) rfl (by omega) (by decide) (fun q H2 nq sq tq => ?_)
      repeat' (tm_at "rs")
      exact k _ _ _ (by tm_at "rfr") (by tm_at "rsm") (by assumption) (by rw [e]; assumption)
    · have hp3 : H p = some (.tup [.str "if", .int (i : Int), .int (g : Int)]) := hp
      have hg : g < 14 := (ho _ (List.mem_of_getElem? hj)).2
      have hi5 : i < m := (ho _ (List.mem_of_getElem? hj)).1
      clear hp
      repeat' (tm_at "rs")
      refine call_nmJ (j := j + 1) rfl (by omega) (by decide) (fun q H2 nq sq tq => ?_)
      repeat' (tm_at "rs")
      show gEq K (.int (g : Int)) _ _ _
      repeat' (tm_at "rs")
      · rename_i ee _ _ _
        have ee2 : g = j + 1 := by omega
        have e : rowS rs j = [undr (.op "times" (.name "q") (.name (nmS "l" j))) (.name (nmS "l" (j + 1)))] := by unfold rowS; rw [hj]; exact if_pos ee2
        exact k _ _ _ (by tm_at "rfr") (by tm_at "rsm") (by assumption) (by rw [e]; assumption)
      · rename_i ee _ _
        have ee2 : ¬ g = j + 1 := by omega
        show sp_f_named K [_, .int (g : Int)] _ _ _
        repeat' (tm_at "rs")
        have e : rowS rs j = [undr (.op "times" (.name "q") (.name (nmS "l" j))) (.op "plus" (.name (nmS "l" g)) (.name (nmS "l" (j + 1)))), undr (.op "times" (.name "q") (.name (nmS "l" j))) (.op "plus" (.name (nmS "l" (j + 1))) (.name (nmS "e" i)))] := by unfold rowS; rw [hj]; exact if_neg ee2
        exact k _ _ _ (by tm_at "rfr") (by tm_at "rsm") (by assumption) (by rw [e]; assumption)
    · have hp3 : H p = some (.tup [.str "go", .int (g : Int)]) := hp
      have hg : g < 14 := ho _ (List.mem_of_getElem? hj)
      have e : rowS rs j = [undr (.op "times" (.name "q") (.name (nmS "l" j))) (.name (nmS "l" g))] := by unfold rowS; rw [hj]
      clear hp
      repeat' (tm_at "rs")
      show sp_f_named K [_, .int (g : Int)] _ _ _
      repeat' (tm_at "rs")
      exact k _ _ _ (by tm_at "rfr") (by tm_at "rsm") (by assumption) (by rw [e]; assumption)
    · have hp3 : H p = some (.tup [.str "stop"]) := hp
      have e : rowS rs j = [] := by unfold rowS; rw [hj]
      clear hp
      repeat' (tm_at "rs")
      exact k _ _ _ (by tm_at "rfr") (by tm_at "rsm") (by assumption) (by rw [e]; exact .nil)
/-! ### moves_of -/
theorem ok_f_moves_of {f : Addr} {fd : FuncData} (F : Fun K "moves_of" "moves_of" s_f_moves_of f fd)
    (m_enumerate : mg "enumerate" = none) :
    FnG P w K mg base CX0 1 f fd ["program", "j", "word"] (sp_f_moves_of K) := by
  refine okG F sc_f_moves_of (fun vs H Q E h => ?_) (fun cdv A outer s H vs Q E hr h => ⟨_, (pss_one (ps_ret (pe_lc (own := _) rfl sc_f_moves_of.nd (pi_enT (by rfl) m_enumerate (pa_cons (pe_fld (pv 0) rfl) pa_nil)) (blkOk_by (own := [("k", 3), ("row", 4)]) (N := ["program", "j", "word", "k", "row"]) (sc := defScope s_f_moves_of) (by decide +kernel)) (fun _ _ _ _ _ => (pg_gt (K := K) (n := 2) rfl rfl (pgs_cons (pg_name (i := 3) sc_f_moves_of.nd rfl (by first | exact Or.inl rfl | exact Or.inr rfl)) (pgs_cons (pg_name (i := 4) sc_f_moves_of.nd rfl (by first | exact Or.inl rfl | exact Or.inr rfl)) pgs_nil)))) (fun _ _ _ _ _ => pts_one (pt_cmpR (op_gEq (K := K) rfl hr.units) (pv 4) (pe_tup (pa_cons (pv 2) (pa_cons (pv 1) pa_nil))) (nomark _))) (fun _ _ _ _ _ => (pv 3))))), ?_⟩)
  · obtain ⟨_, _, _, _, _, rfl, _⟩ := h
    rfl
  · obtain ⟨v, j, m, w', rs, rfl, hv, hw, hl, k⟩ := h
    try dsimp only [cxOf, Cx.nox, Cx.wish]
    change (_ : L2.TS) _ [some (v), some (.int (j : Nat)), some (.str w'), none, none] _
    refine w_start ?_
    repeat' (tm_at "rs")
    rename_i t us hT hR
    have hul := paired_len hR
    refine lcEt (xs := us) (fun D i H' => H' D = some (.lst (nV (plc rs (mvR w' j) i))) ∧ Sm H H') ?_ ?_ ?_ ?_
    · exact fun D H' nD sm hD => ⟨hD, sm⟩
    · exact fun D i H' nD hi h => st_of (h.2 _ _ hT)
    · rintro D i x T H1 H2 nD hi hx ⟨hD, hs⟩ nT sT gT
      obtain ⟨r, hri, p, rfl, hp⟩ := paired_get hR hx
      have hp2 := sT _ _ (hs _ _ hp)
      have hD2 := sT _ _ hD
      have hpl : (nV (plc rs (mvR w' j) i)).length ≤ 100 := by
        rw [nV_len]
        have := List.length_filter_le (fun k => decide (rs[k]? = some (mvR w' j))) (List.range i)
        rw [List.length_range] at this
        unfold plc
        omega
      repeat' (tm_at "rs")
      rename_i q H3 n3 s3 g3
      have g3' : H3 q = some (.tup (mvR w' j).vs) := by rw [mv_vs hw]; exact g3
      refine w_eqRow (s3 _ _ hp2) g3' ?_
      repeat' (tm_at "rs")
      · rename_i e H4 k4 g4
        refine ⟨?_, by tm_at "rsm"⟩
        rw [plc_succ, if_pos (by rw [hri, e]), nV_app]
        exact g4
      · rename_i e
        refine ⟨?_, by tm_at "rsm"⟩
        rw [plc_succ, if_neg (by rw [hri]; exact fun z => e (Option.some.inj z)), List.append_nil]
        exact s3 _ _ hD2
    · rintro D H' nD ⟨hD, hs⟩
      rw [hul] at hD
      repeat' (tm_at "rs")
      exact k D H' nD hs hD
/-! ### box_saying -/
theorem ok_f_box_saying {f : Addr} {fd : FuncData} (F : Fun K "box_saying" "box_saying" s_f_box_saying f fd) {C_Saying : Addr}
    (D_f_sum_of : Def P w K mg base CX0 "sum_of" 1 ["terms"] (sp_f_sum_of K))
    (G_Saying : DefM P w K mg base CX0 "Saying" 1 ["self", "word", "left", "right"] (sp_f_Saying__init K) C_Saying)
    (SC_Saying : ClsN K "Saying" C_Saying ["word", "left", "right"])
    (D_f_rows_named : Def P w K mg base CX0 "rows_named" 2 ["rows"] (sp_f_rows_named K))
    (D_f_moves_of : Def P w K mg base CX0 "moves_of" 1 ["program", "j", "word"] (sp_f_moves_of K))
    (D_f_top : Def P w K mg base CX0 "top" 3 [] (sp_f_top K))
    (DK_f_named_p1 : DefK P w K mg base CX0 "named" 1 ["letter", "number"] [] gk_f_named_p1 (sp_f_named K))
    (DK_f_named_p2 : DefK P w K mg base CX0 "named" 1 ["letter", "number"] [] gk_f_named_p2 (sp_f_named K)) :
    FnG P w K mg base CX0 4 f fd ["program", "j"] (sp_f_box_saying K) := by
  refine okG F sc_f_box_saying (fun vs H Q E h => ?_) (fun cdv A outer s H vs Q E hr h => ⟨_, (pss_cons (ps_par (i := 2) (j := 3) rfl sc_f_box_saying.nd rfl rfl (by decide) rfl rfl (pa_cons (pe_fK DK_f_named_p1 (hr.mono (by omega)) (by rfl) pass0 (pa_cons pe_str pa_nil) pk_nil) (pa_cons (pe_fK DK_f_named_p2 (hr.mono (by omega)) (by rfl) pass0 (pa_cons pe_str (pa_cons (pv 1) pa_nil)) pk_nil) pa_nil)) (by rfl))
    (pss_cons (ps_set (i := 4) sc_f_box_saying.nd rfl (by first | exact Or.inl rfl | exact Or.inr rfl) (pe_f D_f_sum_of (hr.mono (by omega)) (by rfl) pass0 (pa_cons (pe_f D_f_rows_named (hr.mono (by omega)) (by rfl) pass0 (pa_cons (pe_f D_f_moves_of (hr.mono (by omega)) (by rfl) pass0 (pa_cons (pv 0) (pa_cons (pv 1) (pa_cons pe_str pa_nil)))) pa_nil)) pa_nil)))
    (pss_cons (ps_set (i := 5) sc_f_box_saying.nd rfl (by first | exact Or.inl rfl | exact Or.inr rfl) (pe_f D_f_sum_of (hr.mono (by omega)) (by rfl) pass0 (pa_cons (pe_f D_f_rows_named (hr.mono (by omega)) (by rfl) pass0 (pa_cons (pe_f D_f_moves_of (hr.mono (by omega)) (by rfl) pass0 (pa_cons (pv 0) (pa_cons (pv 1) (pa_cons pe_str pa_nil)))) pa_nil)) pa_nil)))
    (pss_cons (ps_set (i := 6) sc_f_box_saying.nd rfl (by first | exact Or.inl rfl | exact Or.inr rfl) (pe_tup (pa_cons pe_str (pa_cons (pe_tup (pa_cons pe_str (pa_cons (pv 2) (pa_cons (pe_tup (pa_cons pe_str (pa_cons (pv 3) (pa_cons (pv 4) pa_nil)))) pa_nil)))) (pa_cons (pe_fK DK_f_named_p2 (hr.mono (by omega)) (by rfl) pass0 (pa_cons pe_str (pa_cons (pv 1) pa_nil)) pk_nil) pa_nil)))))
    (pss_cons (ps_set (i := 7) sc_f_box_saying.nd rfl (by first | exact Or.inl rfl | exact Or.inr rfl) (pe_tup (pa_cons pe_str (pa_cons (pe_tup (pa_cons pe_str (pa_cons (pv 3) (pa_cons (pe_tup (pa_cons pe_str (pa_cons (pv 2) (pa_cons (pv 5) pa_nil)))) pa_nil)))) (pa_cons (pe_tup (pa_cons pe_str (pa_cons (pe_f0 D_f_top (hr.mono (by omega)) (by rfl) pass0) (pa_cons (pe_fK DK_f_named_p2 (hr.mono (by omega)) (by rfl) pass0 (pa_cons pe_str (pa_cons (pv 1) pa_nil)) pk_nil) pa_nil)))) pa_nil)))))
    (pss_one (ps_ret (pe_mk G_Saying (hr.mono (by omega)) (by rfl) pass0 (pa_cons pe_str (pa_cons (pv 6) (pa_cons (pv 7) pa_nil))))))))))), ?_⟩)
  · obtain ⟨_, _, _, _, rfl, _⟩ := h
    rfl
  · obtain ⟨v, m, j, rs, rfl, hv, hj, hm, hl, k⟩ := h
    try dsimp only [cxOf, Cx.nox, Cx.wish]
    change (_ : L2.TS) _ [some (v), some (.int (j : Nat)), none, none, none, none, none, none] _
    refine w_start ?_
    repeat' (tm_at "rs")
    rename_i q0 H1 n1 s1 tq r0 H2 n2 s2 tr
    refine call_movesOf ((hv.sm s1).sm s2) (.inl rfl) hl (fun P H3 nP s3 gP => ?_)
    have plt : ∀ r, ∀ n ∈ plc rs r rs.length, n < 1000 := fun r n hn => by
      have := List.mem_range.mp (List.mem_filter.mp hn).1
      omega
    have e1 : mvR (Str.ofString "raise") j = .up j := if_pos rfl
    have e2 : mvR (Str.ofString "lower") j = .dn j := if_neg (by decide +kernel)
    rw [e1] at gP
    repeat' (tm_at "rs")
    refine call_rowsNamed gP (Nat.le_trans (plc_len _ _ _) (by omega)) (plt _) (fun X xs H4 nX s4 gX hX => ?_)
    repeat' (tm_at "rs")
    refine call_sumOf gX hX (fun rv H5 s5 hrv => ?_)
    repeat' (tm_at "rs")
    have s05 : Sm H H5 := s1.trans (s2.trans (s3.trans (s4.trans s5)))
    have tq5 := tq.sm (s2.trans (s3.trans (s4.trans s5)))
    have tr5 := tr.sm (s3.trans (s4.trans s5))
    refine call_movesOf (hv.sm s05) (.inr rfl) hl (fun P2 H6 nP2 s6 gP2 => ?_)
    rw [e2] at gP2
    repeat' (tm_at "rs")
    refine call_rowsNamed gP2 (Nat.le_trans (plc_len _ _ _) (by omega)) (plt _) (fun X2 xs2 H7 nX2 s7 gX2 hX2 => ?_)
    repeat' (tm_at "rs")
    refine call_sumOf gX2 hX2 (fun lv H8 s8 hlv => ?_)
    have s58 := s6.trans (s7.trans s8)
    have s08 := s05.trans s58
    have tq8 := tq5.sm s58
    have tr8 := tr5.sm s58
    have hrv8 := hrv.sm s58
    clear s1 s2 s3 s4 s5 s6 s7 s8 s58 s05 tq tr tq5 tr5 hrv
    repeat' (tm_at "rs")
    exact k _ _ (by tm_at "rsm") (by assumption)
/-! ### sayings_of -/
theorem ok_f_sayings_of {f : Addr} {fd : FuncData} (F : Fun K "sayings_of" "sayings_of" s_f_sayings_of f fd) {C_Program : Addr}
    (D_f_base_sayings : Def P w K mg base CX0 "base_sayings" 4 ["program"] (sp_f_base_sayings K))
    (D_f_time_sayings : Def P w K mg base CX0 "time_sayings" 3 ["program"] (sp_f_time_sayings K))
    (D_f_row_sayings : Def P w K mg base CX0 "row_sayings" 3 ["program", "k"] (sp_f_row_sayings K))
    (D_f_box_saying : Def P w K mg base CX0 "box_saying" 4 ["program", "j"] (sp_f_box_saying K))
    (M_Program_len : DefO P w K mg base CX0 C_Program "__len__" 1 ["self"] (sp_f_Program__len K))
    (SC_Program : ClsN K "Program" C_Program ["boxes", "rows"])
    (OC_Program : ClsO K C_Program)
    (m_range : mg "range" = none)
    (m_len : mg "len" = none) :
    FnG P w K mg base CX0 5 f fd ["program"] (sp_f_sayings_of K) := by
  refine okG F sc_f_sayings_of (fun vs H Q E h => ?_) (fun cdv A outer s H vs Q E hr h => ⟨_, (pss_cons (ps_set (i := 1) sc_f_sayings_of.nd rfl (by first | exact Or.inl rfl | exact Or.inr rfl) (pe_op (op_gAdd (K := K) rfl) (pe_f D_f_base_sayings (hr.mono (by omega)) (by rfl) pass0 (pa_cons (pv 0) pa_nil)) (pe_f D_f_time_sayings (hr.mono (by omega)) (by rfl) pass0 (pa_cons (pv 0) pa_nil))))
    (pss_cons (ps_for PassesOwn.never rfl (pi_range1 (by rfl) m_range (pa_cons (pe_callB (cr_lenO M_Program_len (hr.mono (by omega)) pass0) (by rfl) m_len PySem.boot_len (pa_cons (pv 0) pa_nil)) pa_nil)) (pg_name (i := 2) sc_f_sayings_of.nd rfl (by first | exact Or.inl rfl | exact Or.inr rfl)) (pss_one (ps_expr (pe_gbm (K := K) rfl PySem.F.plainAttrs_list PySem.F.slot_list_extend PySem.F.type_list_extend mt_extend (pv 1) (pa_cons (pe_f D_f_row_sayings (hr.mono (by omega)) (by rfl) pass0 (pa_cons (pv 0) (pa_cons (pv 2) pa_nil))) pa_nil)))))
    (pss_one (ps_ret (pe_op (op_gAdd (K := K) rfl) (pv 1) (pe_lc (own := _) rfl sc_f_sayings_of.nd (pi_range1 (by rfl) m_range (pa_cons (pe_fld (pv 0) rfl) pa_nil)) (blkOk_by (own := [("j", 3)]) (N := ["program", "found", "k", "j"]) (sc := defScope s_f_sayings_of) (by decide +kernel)) (fun _ _ _ _ _ => (pg_name (i := 3) sc_f_sayings_of.nd rfl (by first | exact Or.inl rfl | exact Or.inr rfl))) (fun _ _ _ _ _ => pts_nil) (fun _ _ _ _ _ => (pe_f D_f_box_saying (hr.mono (by omega)) (by rfl) pass0 (pa_cons (pv 0) (pa_cons (pv 3) pa_nil)))))))))), ?_⟩)
  · obtain ⟨_, _, _, rfl, _⟩ := h
    rfl
  · obtain ⟨v, m, rs, rfl, hv, hm, ho, hl, k⟩ := h
    try dsimp only [cxOf, Cx.nox, Cx.wish]
    change (_ : L2.TS) _ [some (v), none, none, none] _
    refine w_start ?_
    repeat' (tm_at "rs")
    refine call_baseS hv hm hl (fun A as H1 nA s1 gA hA => ?_)
    repeat' (tm_at "rs")
    refine call_timeS (hv.sm s1) hm ho hl (fun B bs H2 nB s2 gB hB => ?_)
    have hA2 := hA.sm s2
    have gA2 := s2 _ _ gA
    have la := hA.len
    have lb := hB.len
    have l1 : as.length = 6 := la
    have l2 : bs.length ≤ 100 := by rw [lb, timeS_len]; have := asked_le m rs; omega
    repeat' (tm_at "rs")
    rename_i F H3 fs nF s3 gF hF lF
    have hv3 := ((hv.sm s1).sm s2).sm s3
    refine loopR (fun i σ' H' => ∃ (x2 : Option V) (zs : List V), σ' = [some v, some (.ref F), x2, none] ∧ Kp F H3 H' ∧ H' F = some (.lst zs) ∧ zs.length ≤ 106 + 2 * i ∧ SysAt K H' zs ((baseS m rs.length ++ timeS m rs) ++ rowsS rs i)) ⟨_, fs, rfl, Kp.refl _, gF, by omega, by show SysAt K H3 fs (_ ++ []); rw [List.append_nil]; exact hF⟩ ?_ ?_
    · rintro i σ' H' hi ⟨x2, zs, rfl, kF, gF', zl, hz⟩
      rw [Int.toNat_natCast] at hi
      obtain ⟨r, hr⟩ : ∃ r, rs[i]? = some r := ⟨_, List.getElem?_eq_some_iff.mpr ⟨hi, rfl⟩⟩
      have hv4 : PrgAt K H' v m rs := hv3.kp gF kF
      rw [rowsS_succ, ← List.append_assoc]
      repeat' (tm_at "rs")
      rw [Int.zero_add]
      refine call_rowS hv4 hr hm (ho.up hl) hl (fun R ys H4 nR s4 gR hR => ?_)
      have ly := hR.len
      have ly2 := rowS_len rs i
      have gF4 := s4 _ _ gF'
      have hz4 := hz.sm s4
      have lz : zs.length + ys.length ≤ 10000 := by omega
      repeat' (tm_at "rs")
      rename_i H5 ws k5 g5 hws wl
      exact ⟨_, ws, rfl, by tm_at "rkp", g5, by omega, hws⟩
    · rintro σ' H' ⟨x2, zs, rfl, kF, gF', zl, hz⟩
      rw [Int.toNat_natCast] at hz zl
      have hv4 : PrgAt K H' v m rs := hv3.kp gF kF
      repeat' (tm_at "rs")
      refine lcR (fun G i H2 => ∃ xs, H2 G = some (.lst xs) ∧ xs.length = i ∧ SysAt K H2 xs ((List.range i).map (boxS rs)) ∧ Sm H' H2) ?_ ?_ ?_
      · exact fun G H2 nG sm hG => ⟨[], hG, rfl, .nil, sm⟩
      · rintro G i H2 nG hi ⟨xs, hG, hxl, hx, sm2⟩
        have hx100 : xs.length ≤ 100 := by omega
        have hv5 := hv4.sm sm2
        repeat' (tm_at "rs")
        rw [Int.zero_add]
        refine call_boxS hv5 (by omega) hm hl (fun q H3 sq hq => ?_)
        have hG3 := sq _ _ hG
        repeat' (tm_at "rs")
        rename_i H6 k6 g6
        refine ⟨_, g6, by rw [List.length_append, hxl]; rfl, ?_, by tm_at "rsm"⟩
        rw [map_rs]
        exact ((hx.sm sq).one hq).kpL hG3 k6
      · rintro G H2 nG ⟨xs, hG, hxl, hx, sm2⟩
        rw [Int.toNat_natCast] at hx hxl
        have gF2 := sm2 _ _ gF'
        have hz2 := hz.sm sm2
        repeat' (tm_at "rs")
        rename_i G' H7 ws n7 s7 g7 hws wl
        exact k _ ws _ (by tm_at "rfr") (by tm_at "rsm") g7 hws
/-! ### Program.__eq__ -/
theorem ok_f_Program__eq {f : Addr} {fd : FuncData} (F : Fun K "__eq__" "Program.__eq__" s_f_Program__eq f fd) {C_Program : Addr}
    (n_Program : mg "Program" = some (.ref C_Program))
    (SC_Program : ClsN K "Program" C_Program ["boxes", "rows"])
    (OC_Program : ClsO K C_Program)
    (m_isinstance : mg "isinstance" = none) :
    FnG P w K mg base CX0 1 f fd ["self", "other"] (sp_f_Program__eq K) := by
  refine okG F sc_f_Program__eq (fun vs H Q E h => ?_) (fun cdv A outer s H vs Q E hr h => ⟨_, (pss_one (ps_ret (pe_and (pe_callB (call_gIsi (K := K) rfl) (by rfl) m_isinstance PyProof.Rows.boot_isinstance (pa_cons (pv 1) (pa_cons (pe_glob (v := .ref C_Program) rfl n_Program rfl) pa_nil))) (pe_and (pe_cmpR (op_gEq (K := K) rfl hr.units) (pe_fld (pv 0) rfl) (pe_fld (pv 1) rfl) (nomark _)) (pe_one (pe_cmpR (op_gEq (K := K) rfl hr.units) (pe_fld (pv 0) rfl) (pe_fld (pv 1) rfl) (nomark _))))))), ?_⟩)
  · obtain ⟨_, _, _, _, _, _, rfl, _⟩ := h
    rfl
  · obtain ⟨a, b, m, n, rs, qs, rfl, ha, hb, k⟩ := h
    try dsimp only [cxOf, Cx.nox, Cx.wish]
    change (_ : L2.TS) _ [some (.ref a), some (.ref b)] _
    refine w_start ?_
    obtain ⟨p2, C2, dx2, t2, us2, e2, c2, g2, _⟩ := id hb
    cases e2
    obtain rfl := prc_eq c2 SC_Program
    repeat' (tm_at "rs")
    refine w_isiOwn g2 c2.cl OC_Program ?_
    repeat' (tm_at "rs")
    · rename_i e t3 us3 h3 r3 t4 us4 h4 r4
      have hmn : m = n := by omega
      refine w_eqRows h3 r3 h4 r4 ?_
      repeat' (tm_at "rs")
      have hd : decide (rs = qs) = decide (m = n ∧ rs = qs) := decide_eq_decide.mpr ⟨fun z => ⟨hmn, z⟩, fun z => z.2⟩
      rw [hd]
      exact k _ (Same.refl _)
    · rename_i e
      have hne : ¬ (m = n ∧ rs = qs) := fun z => e (by rw [z.1])
      rw [show false = decide (m = n ∧ rs = qs) from (decide_eq_false hne).symm]
      exact k _ (Same.refl _)
/-! ### _law_right -/
theorem ok_f_law_right {f : Addr} {fd : FuncData} (F : Fun K "_law_right" "_law_right" s_f_law_right f fd) {C_Program : Addr} {C_Saying : Addr}
    (G_Program : DefM P w K mg base CX0 "Program" 5 ["self", "boxes", "rows"] (sp_f_Program__init K) C_Program)
    (SC_Program : ClsN K "Program" C_Program ["boxes", "rows"])
    (D_f_law_sayings : Def P w K mg base CX0 "_law_sayings" 2 ["boxes", "rows"] (sp_f_law_sayings K))
    (D_f_sayings_of : Def P w K mg base CX0 "sayings_of" 5 ["program"] (sp_f_sayings_of K))
    (M_Program_eq : DefO P w K mg base CX0 C_Program "__eq__" 1 ["self", "other"] (sp_f_Program__eq K))
    (OC_Program : ClsO K C_Program)
    (n_Saying : mg "Saying" = some (.ref C_Saying))
    (SC_Saying : ClsN K "Saying" C_Saying ["word", "left", "right"])
    (OC_Saying : ClsO K C_Saying)
    (m_range : mg "range" = none)
    (m_tuple : mg "tuple" = none)
    (m_repr : mg "repr" = none)
    (m_isinstance : mg "isinstance" = none)
    (m_list : mg "list" = none)
    (m_all : mg "all" = none) :
    FnG P w K mg base CX0 7 f fd ["boxes", "rows"] (sp_f_law_right K) := by
  refine okG F sc_f_law_right (fun vs H Q E h => ?_) (fun cdv A outer s H vs Q E hr h => ⟨_, (pss_cons (ps_set (i := 2) sc_f_law_right.nd rfl (by first | exact Or.inl rfl | exact Or.inr rfl) (pe_mk G_Program (hr.mono (by omega)) (by rfl) pass0 (pa_cons (pv 0) (pa_cons (pe_callTy (call_gTuple (K := K) rfl) (by rfl) m_tuple PyProof.Rows.boot_tuple (pa_cons (pv 1) pa_nil)) pa_nil))))
    (pss_cons (ps_set (i := 3) sc_f_law_right.nd rfl (by first | exact Or.inl rfl | exact Or.inr rfl) (pe_f D_f_law_sayings (hr.mono (by omega)) (by rfl) pass0 (pa_cons (pv 0) (pa_cons (pv 1) pa_nil))))
    (pss_cons (ps_for PassesOwn.never rfl (pi_range1 (by rfl) m_range (pa_cons pe_int pa_nil)) (pg_name (i := 4) sc_f_law_right.nd rfl (by first | exact Or.inl rfl | exact Or.inr rfl)) (pss_cons (ps_set (i := 5) sc_f_law_right.nd rfl (by first | exact Or.inl rfl | exact Or.inr rfl) (pe_f D_f_sayings_of (hr.mono (by omega)) (by rfl) pass0 (pa_cons (pv 2) pa_nil)))
    (pss_cons (ps_if (PW.pt (pw_or (pt_not (pt_val (pe_callB (call_gIsi (K := K) rfl) (by rfl) m_isinstance PyProof.Rows.boot_isinstance (pa_cons (pv 5) (pa_cons (pe_bltn (v := .ty "list") (by rfl) m_list PyProof.Rows.boot_list rfl) pa_nil))))) (pw_or1 (pt_not (pt_val (pe_callB (cr_all rfl) (by rfl) m_all (by decide +kernel) (pa_cons (pe_lc (own := _) rfl sc_f_law_right.nd (pi_gl (K := K) rfl (pv 5)) (blkOk_by (own := [("one", 6)]) (N := ["boxes", "rows", "program", "due", "turn", "found", "one"]) (sc := defScope s_f_law_right) (by decide +kernel)) (fun _ _ _ _ _ => (pg_name (i := 6) sc_f_law_right.nd rfl (by first | exact Or.inl rfl | exact Or.inr rfl))) (fun _ _ _ _ _ => pts_nil) (fun _ _ _ _ _ => (pe_callB (call_gIsi (K := K) rfl) (by rfl) m_isinstance PyProof.Rows.boot_isinstance (pa_cons (pv 6) (pa_cons (pe_glob (v := .ref C_Saying) rfl n_Saying rfl) pa_nil))))) pa_nil))))))) (pss_one (ps_ret pe_bl)) pss_nil)
    (pss_cons (ps_if (pt_cmpR (op_gNe (K := K) rfl hr.units) (pe_callB (call_gRep (K := K) rfl hr.gd hr.big) (by rfl) m_repr (by decide +kernel) (pa_cons (pe_lc (own := _) rfl sc_f_law_right.nd (pi_gl (K := K) rfl (pv 5)) (blkOk_by (own := [("one", 6)]) (N := ["boxes", "rows", "program", "due", "turn", "found", "one"]) (sc := defScope s_f_law_right) (by decide +kernel)) (fun _ _ _ _ _ => (pg_name (i := 6) sc_f_law_right.nd rfl (by first | exact Or.inl rfl | exact Or.inr rfl))) (fun _ _ _ _ _ => pts_nil) (fun _ _ _ _ _ => (pe_tup (pa_cons (pe_fldK (K := K) rfl (pv 6) rfl) (pa_cons (pe_fldK (K := K) rfl (pv 6) rfl) (pa_cons (pe_fldK (K := K) rfl (pv 6) rfl) pa_nil)))))) pa_nil)) (pe_callB (call_gRep (K := K) rfl hr.gd hr.big) (by rfl) m_repr (by decide +kernel) (pa_cons (pv 3) pa_nil)) (nomark _)) (pss_one (ps_ret pe_bl)) pss_nil)
    (pss_one (ps_expr (pe_gbm0 (K := K) rfl PySem.F.plainAttrs_list PySem.F.slot_list_clear PySem.F.type_list_clear mt_clear (pv 5))))))))
    (pss_one (ps_ret (pe_and (pe_cmpR (op_gEq (K := K) rfl hr.units) (pe_callB (call_gRep (K := K) rfl hr.gd hr.big) (by rfl) m_repr (by decide +kernel) (pa_cons (pe_fld (pv 2) rfl) pa_nil)) (pe_callB (call_gRep (K := K) rfl hr.gd hr.big) (by rfl) m_repr (by decide +kernel) (pa_cons (pe_callTy (call_gTuple (K := K) rfl) (by rfl) m_tuple PyProof.Rows.boot_tuple (pa_cons (pv 1) pa_nil)) pa_nil)) (nomark _)) (pe_one (pe_cmpR (op_eqO M_Program_eq (hr.mono (by omega)) pass0) (pv 2) (pe_mk G_Program (hr.mono (by omega)) (by rfl) pass0 (pa_cons (pv 0) (pa_cons (pv 1) pa_nil))) (nomark _))))))))), ?_⟩)
  · obtain ⟨_, _, _, _, rfl, _⟩ := h
    rfl
  · obtain ⟨m, p, us, rs, rfl, hp, hR, hg, k⟩ := h
    try dsimp only [cxOf, Cx.nox, Cx.wish]
    change (_ : L2.TS) _ [some (.int (m : Nat)), some (.ref p), none, none, none, none, none] _
    refine w_start ?_
    have hul := paired_len hR
    have hn14 := hg.len
    have hm5 := hg.b5
    have sX := sys_X hg
    have sW := sys_wt hg
    repeat' (tm_at "rs")
    rename_i T0 H0 nT0 s0 gT0
    refine mk_progT SC_Program gT0 (hR.tk (Tk.sm s0)) hg (fun P H1 nP s1' hP => ?_)
    have s1 : Sm H H1 := s0.trans s1'
    clear gT0 nT0 s0 s1'
    have hp1 := s1 _ _ hp
    have hR1 := hR.tk (Tk.sm s1)
    repeat' (tm_at "rs")
    refine call_lawSys hp1 hR1 hg (fun Dq ds H2 nD s2 gD hD => ?_)
    have hP2 := hP.sm s2
    have hp2 := s2 _ _ hp1
    have hR2 := hR1.tk (Tk.sm s2)
    have s02 := s1.trans s2
    clear hp1 hR1 hP
    repeat' (tm_at "rs")
    refine loopR (fun i σ' H' => ∃ (x4 x5 x6 : Option V), σ' = [some (.int (m : Nat)), some (.ref p), some (.ref P), some (.ref Dq), x4, x5, x6] ∧ Sm H2 H') ⟨_, _, _, rfl, Same.refl _⟩ ?_ ?_
    · rintro i σ' H' hi ⟨x4, x5, x6, rfl, sm⟩
      have hP' := hP2.sm sm
      have gD' := sm _ _ gD
      have hD' := TmsAt.sm hD sm
      repeat' (tm_at "rs")
      refine call_sysOf hP' hm5 hg.ok hn14 (fun F fs H3 nF s3 gF hF => ?_)
      have gD3 := s3 _ _ gD'
      have hD3 := TmsAt.sm hD' s3
      have hfl := hF.len
      repeat' (tm_at "rs")
      have l66 : fs.length ≤ 66 := by rw [hfl]; exact sys_len66 hg
      refine lcLs (xs := fs) (fun G i H' => H' G = some (.lst ((List.replicate i true).map V.bl)) ∧ Sm H3 H') ?_ ?_ ?_ ?_
      · exact fun G H' nG sm hG => ⟨hG, sm⟩
      · exact fun G i H' nG hi h => sq_of (h.2 _ _ gF)
      · rintro G i x H' nG hx ⟨hG, sm3⟩
        obtain ⟨s, hsi, l, r, hsay, _, _⟩ := paired_get hF hx
        have hsay' := hsay.sm sm3
        have hil := (List.getElem?_eq_some_iff.mp hx).1
        have hz : ((List.replicate i true).map V.bl).length ≤ 1000 := by rw [List.length_map, List.length_replicate]; omega
        repeat' (tm_at "rs")
        refine isi_say hsay' SC_Saying OC_Saying ?_
        repeat' (tm_at "rs")
        rename_i H4 k4 g4
        exact ⟨by rw [g4, List.replicate_succ', List.map_append]; rfl, by tm_at "rsm"⟩
      · rintro G H4 nG ⟨hG, sm4⟩
        have eall : (List.replicate fs.length true).all id = true := by simp
        repeat' (tm_at "rs")
        rw [eall]
        have gF4 := sm4 _ _ gF
        have hF4 := hF.sm sm4
        have gD4 := sm4 _ _ gD3
        have hD4 := TmsAt.sm hD3 sm4
        clear hG eall
        repeat' (tm_at "rs")
        refine lcLs (xs := fs) (fun G2 i H' => ∃ zs, H' G2 = some (.lst zs) ∧ TmsAt K H' zs (((sysOf m rs).take i).map opS) ∧ zs.length = i ∧ Sm H4 H') ?_ ?_ ?_ ?_
        · exact fun G2 H' nG sm hG => ⟨[], hG, .nil, rfl, sm⟩
        · rintro G2 i H' nG2 hi ⟨zs, hG2, hz, hzl, sm5⟩
          exact sq_of (sm5 _ _ gF4)
        · rintro G2 i x H' nG2 hx ⟨zs, hG2, hz, hzl, sm5⟩
          obtain ⟨s, hsi, l, r, hsay, tl, tr⟩ := paired_get hF4 hx
          have hsay' := hsay.sm sm5
          have tl' := tl.sm sm5
          have tr' := tr.sm sm5
          have hil := (List.getElem?_eq_some_iff.mp hx).1
          have htk : (sysOf m rs).take (i + 1) = (sysOf m rs).take i ++ [s] := by rw [List.take_succ, hsi]; rfl
          have hzl2 : zs.length ≤ 100 := by omega
          repeat' (tm_at "rs")
          rename_i q H5 nq sq tq H6 k6 g6
          refine ⟨_, g6, ?_, by rw [List.length_append, hzl]; rfl, by tm_at "rsm"⟩
          rw [htk, List.map_append]
          exact ((TmsAt.sm hz sq).one tq).kpL (sq _ _ hG2) k6
        · rintro G2 H5 nG2 ⟨zs, hG2, hz, hzl, sm5⟩
          rw [hfl, List.take_length] at hz
          have gD5 := sm5 _ _ gD4
          have hD5 := TmsAt.sm hD4 sm5
          have gF5 := sm5 _ _ gF4
          have s25 : Sm H2 H5 := sm.trans (s3.trans (sm4.trans sm5))
          have nF2 : H2 F = none := Same.free sm nF
          repeat' (tm_at "rs")
          refine w_repMs hG2 hz (fun t ht => (sX t ht).1) (fun t ht => (sX t ht).2.1) sW ?_
          repeat' (tm_at "rs")
          refine w_repMs gD5 hD5 (fun t ht => (sX t ht).1) (fun t ht => (sX t ht).2.1) sW ?_
          repeat' (tm_at "rs")
          · rename_i e
            exact absurd rfl e
          · rename_i e H6 k6 g6
            exact ⟨_, _, _, rfl, sm_mut s25 nF2 k6⟩
    · rintro σ' H' ⟨x4, x5, x6, rfl, sm⟩
      have hP' := hP2.sm sm
      have hp' := sm _ _ hp2
      have hR' := hR2.tk (Tk.sm sm)
      repeat' (tm_at "rs")
      rename_i T vs hT hv
      refine w_repRowsT hT hv hg.ok (by omega) (by omega) (by omega) ?_
      repeat' (tm_at "rs")
      rename_i T2 H3 n3 s3 g3
      refine w_repRowsT g3 (hR'.tk (Tk.sm s3)) hg.ok (by omega) (by omega) (by omega) ?_
      have hp3 := s3 _ _ hp'
      have hR3 := hR'.tk (Tk.sm s3)
      repeat' (tm_at "rs")
      · refine mk_prog SC_Program hp3 hR3 hg (fun P2 H4 n4 s4 hP3 => ?_)
        refine eq_prog SC_Program ((hP'.sm s3).sm s4) hP3 (fun H5 s5 => ?_)
        rw [decide_eq_true (show m = m ∧ rs = rs from ⟨rfl, rfl⟩)]
        exact k H5 (s02.trans (sm.trans (s3.trans (s4.trans s5))))
      · rename_i e
        exact absurd rfl e
/-! ### law -/
theorem ok_f_law {f : Addr} {fd : FuncData} (F : Fun K "law" "law" s_f_law f fd)
    (D_f_law_some_program : Def P w K mg base CX0 "_law_some_program" 4 ["box"] (sp_f_law_some_program K))
    (D_f_law_box : Def P w K mg base CX0 "_law_box" 1 ["script", "k"] (sp_f_law_box K))
    (D_f_law_right : Def P w K mg base CX0 "_law_right" 7 ["boxes", "rows"] (sp_f_law_right K))
    (m_range : mg "range" = none)
    (m_max : mg "max" = none)
    (m_min : mg "min" = none)
    (m_len : mg "len" = none) :
    FnG P w K mg base CX0 8 f fd ["script"] (sp_f_law K) := by
  refine okG F sc_f_law (fun vs H Q E h => ?_) (fun cdv A outer s H vs Q E hr h => ⟨_, (pss_cons (ps_setLc (i := 1) rfl sc_f_law.nd rfl rfl (sw_true rfl rfl rfl (by decide +kernel)) (pi_range1 (by rfl) m_range (pa_cons (pe_callB (call_gMax rfl) (by rfl) m_max (by decide +kernel) (pa_cons pe_int (pa_cons (pe_callB (call_gMin rfl) (by rfl) m_min (by decide +kernel) (pa_cons pe_int (pa_cons (pe_callB (call_gLen (K := K) rfl) (by rfl) m_len PySem.boot_len (pa_cons (pv 0) pa_nil)) pa_nil))) pa_nil))) pa_nil)) (blkOk_by (own := [("k", 2)]) (N := ["script", "asked", "k", "boxes", "rows"]) (sc := defScope s_f_law) (by decide +kernel)) (fun _ _ _ _ _ => (pg_name (i := 2) sc_f_law.nd rfl (by first | exact Or.inl rfl | exact Or.inr rfl))) (fun _ _ _ _ _ => pts_nil) (fun _ _ _ _ _ => (pe_f D_f_law_some_program (hr.mono (by omega)) (by rfl) pass0 (pa_cons (pe_f D_f_law_box (hr.mono (by omega)) (by rfl) pass0 (pa_cons (pv 0) (pa_cons (pv 2) pa_nil))) pa_nil))))
    (pss_cons (ps_for PassesOwn.never rfl (pi_gl (K := K) rfl (pe_op (op_gAdd (K := K) rfl) (pv 1) (pe_slice (sl_gl (K := K) rfl) (pv 1) po_none (po_some pe_int)))) (pg_gt (K := K) (n := 2) rfl rfl (pgs_cons (pg_name (i := 3) sc_f_law.nd rfl (by first | exact Or.inl rfl | exact Or.inr rfl)) (pgs_cons (pg_name (i := 4) sc_f_law.nd rfl (by first | exact Or.inl rfl | exact Or.inr rfl)) pgs_nil))) (pss_one (ps_if (pt_not (pt_val (pe_f D_f_law_right (hr.mono (by omega)) (by rfl) pass0 (pa_cons (pv 3) (pa_cons (pv 4) pa_nil))))) (pss_one (ps_ret pe_bl)) pss_nil)))
    (pss_one (ps_ret pe_bl)))), ?_⟩)
  · obtain ⟨_, _, rfl, _⟩ := h
    rfl
  · obtain ⟨a, ns, rfl, hS, hlen, k⟩ := h
    try dsimp only [cxOf, Cx.nox, Cx.wish]
    change (_ : L2.TS) _ [some (.ref a), none, none, none, none] _
    refine w_start ?_
    have hl0 : (ns.map V.int).length ≤ 63 := by rw [List.length_map]; exact hlen
    repeat' (tm_at "rs")
    refine lcR (fun D i H' => ∃ xs, H' D = some (.lst xs) ∧ xs.length = i ∧ (∀ x ∈ xs, PgT H' D x) ∧ SqF K H' a (ns.map V.int)) ?_ ?_ ?_
    · intro D H' nD sm hD
      exact ⟨[], hD, rfl, (fun x h => by cases h), hS.sm sm⟩
    · rintro D i H' nD hi ⟨xs, hD, hl, hx, hS'⟩
      have hxl : xs.length ≤ 10 := by omega
      repeat' (tm_at "rs")
      rename_i b H1 nb sb bb q p m us rs H2 np gq gp hr hg k2 b2 H3 k3 g3
      have sm2 : Sm H' H2 := sm_mut sb nb k2
      have hD2 := sm2 _ _ hD
      have Dp : p ≠ D := fun z => by
        have := sb _ _ hD
        rw [z, this] at np
        cases np
      refine ⟨_, g3, by rw [List.length_append, hl]; rfl, fun x hm => ?_, (hS'.sm sm2).kp hD2 k3⟩
      rcases List.mem_append.mp hm with hm | hm
      · exact ((hx x hm).sm sm2).kp hD2 k3
      · rw [List.mem_singleton.mp hm]
        exact PgT.kp ⟨q, p, m, us, rs, rfl, gq, gp, hr, hg, Dp⟩ hD2 k3
    · rintro D H' nD ⟨xs, hD, hl, hx, hS'⟩
      have hxl : xs.length ≤ 10 := by omega
      repeat' (tm_at "rs")
      rename_i C H1 nC s1 gC L H2 nL s2 gL
      have hall : ∀ x ∈ xs ++ cutV xs none (some 1), PgT H2 D x := fun x hm => by
        rcases List.mem_append.mp hm with hm | hm
        · exact ((hx x hm).sm s1).sm s2
        · exact ((hx x (List.mem_of_mem_drop (List.mem_of_mem_take hm))).sm s1).sm s2
      refine loopL (xs := xs ++ cutV xs none (some 1)) (fun i σ' H' => ∃ (x2 x3 x4 : Option V), σ' = [some (.ref a), some (.ref D), x2, x3, x4] ∧ Sm H2 H') ⟨_, _, _, rfl, Same.refl _⟩ ?_ ?_ ?_
      · rintro i σ' H3 hi ⟨x2, x3, x4, rfl, sm⟩
        exact sq_of (sm _ _ gL)
      · rintro i x σ' H3 hi ⟨x2, x3, x4, rfl, sm⟩
        obtain ⟨q, p, m, us, rs, rfl, gq, gp, hr, hg, _⟩ := (hall x (List.mem_of_getElem? hi)).sm sm
        repeat' (tm_at "rs")
        refine call_right32 gp hr hg (fun H4 s4 => ?_)
        repeat' (tm_at "rs")
        exact ⟨_, _, _, rfl, sm.trans s4⟩
      · rintro σ' H3 ⟨x2, x3, x4, rfl, sm⟩
        repeat' (tm_at "rs")
        exact k _
end
theorem all_mk {l : PySem.W.OpenLaw} {w : World} {K : PySem.W.Frag} {h : Heap} {mg : Str → Option Value} {fa : Addr} (X : K.In h) (G : h.Ns mainGlobals mg) (hfa : mg "law" = some (.ref fa))
    {f0 : Addr} {od0 an0 : Option Addr} {sl0 : Array (Option Value)} {oc0 kV0 dc0 pm0 cd0 ct0 : Value}
    {f1 : Addr} {od1 an1 : Option Addr} {sl1 : Array (Option Value)} {oc1 kV1 dc1 pm1 cd1 ct1 : Value}
    {f2 : Addr} {od2 an2 : Option Addr} {sl2 : Array (Option Value)} {oc2 kV2 dc2 pm2 cd2 ct2 : Value}
    {f3 : Addr} {od3 an3 : Option Addr} {sl3 : Array (Option Value)} {oc3 kV3 dc3 pm3 cd3 ct3 : Value}
    {f4 : Addr} {od4 an4 : Option Addr} {sl4 : Array (Option Value)} {oc4 kV4 dc4 pm4 cd4 ct4 : Value}
    {f5 : Addr} {od5 an5 : Option Addr} {sl5 : Array (Option Value)} {oc5 kV5 dc5 pm5 cd5 ct5 : Value}
    {f6 : Addr} {od6 an6 : Option Addr} {sl6 : Array (Option Value)} {oc6 kV6 dc6 pm6 cd6 ct6 : Value}
    {f7 : Addr} {od7 an7 : Option Addr} {sl7 : Array (Option Value)} {oc7 kV7 dc7 pm7 cd7 ct7 : Value}
    {f8 : Addr} {od8 an8 : Option Addr} {sl8 : Array (Option Value)} {oc8 kV8 dc8 pm8 cd8 ct8 : Value}
    {f9 : Addr} {od9 an9 : Option Addr} {sl9 : Array (Option Value)} {oc9 kV9 dc9 pm9 cd9 ct9 : Value}
    {f10 : Addr} {od10 an10 : Option Addr} {sl10 : Array (Option Value)} {oc10 kV10 dc10 pm10 cd10 ct10 : Value}
    {f11 : Addr} {od11 an11 : Option Addr} {sl11 : Array (Option Value)} {oc11 kV11 dc11 pm11 cd11 ct11 : Value}
    {f12 : Addr} {od12 an12 : Option Addr} {sl12 : Array (Option Value)} {oc12 kV12 dc12 pm12 cd12 ct12 : Value}
    {f13 : Addr} {od13 an13 : Option Addr} {sl13 : Array (Option Value)} {oc13 kV13 dc13 pm13 cd13 ct13 : Value}
    {f14 : Addr} {od14 an14 : Option Addr} {sl14 : Array (Option Value)} {oc14 kV14 dc14 pm14 cd14 ct14 : Value}
    {f15 : Addr} {od15 an15 : Option Addr} {sl15 : Array (Option Value)} {oc15 kV15 dc15 pm15 cd15 ct15 : Value}
    {f16 : Addr} {od16 an16 : Option Addr} {sl16 : Array (Option Value)} {oc16 kV16 dc16 pm16 cd16 ct16 : Value}
    {f17 : Addr} {od17 an17 : Option Addr} {sl17 : Array (Option Value)} {oc17 kV17 dc17 pm17 cd17 ct17 : Value}
    {f18 : Addr} {od18 an18 : Option Addr} {sl18 : Array (Option Value)} {oc18 kV18 dc18 pm18 cd18 ct18 : Value}
    {dT18 : Addr} {dtc18 : Value} {dtd18 : Option Addr} {dti18 : Array Value} {dtn18 : Nat} {dts18 : Array (Option Value)}
    {f19 : Addr} {od19 an19 : Option Addr} {sl19 : Array (Option Value)} {oc19 kV19 dc19 pm19 cd19 ct19 : Value}
    {f20 : Addr} {od20 an20 : Option Addr} {sl20 : Array (Option Value)} {oc20 kV20 dc20 pm20 cd20 ct20 : Value}
    {f21 : Addr} {od21 an21 : Option Addr} {sl21 : Array (Option Value)} {oc21 kV21 dc21 pm21 cd21 ct21 : Value}
    {f22 : Addr} {od22 an22 : Option Addr} {sl22 : Array (Option Value)} {oc22 kV22 dc22 pm22 cd22 ct22 : Value}
    {f23 : Addr} {od23 an23 : Option Addr} {sl23 : Array (Option Value)} {oc23 kV23 dc23 pm23 cd23 ct23 : Value}
    {f24 : Addr} {od24 an24 : Option Addr} {sl24 : Array (Option Value)} {oc24 kV24 dc24 pm24 cd24 ct24 : Value}
    {f25 : Addr} {od25 an25 : Option Addr} {sl25 : Array (Option Value)} {oc25 kV25 dc25 pm25 cd25 ct25 : Value}
    {f26 : Addr} {od26 an26 : Option Addr} {sl26 : Array (Option Value)} {oc26 kV26 dc26 pm26 cd26 ct26 : Value}
    {f27 : Addr} {od27 an27 : Option Addr} {sl27 : Array (Option Value)} {oc27 kV27 dc27 pm27 cd27 ct27 : Value}
    {f28 : Addr} {od28 an28 : Option Addr} {sl28 : Array (Option Value)} {oc28 kV28 dc28 pm28 cd28 ct28 : Value}
    {f29 : Addr} {od29 an29 : Option Addr} {sl29 : Array (Option Value)} {oc29 kV29 dc29 pm29 cd29 ct29 : Value}
    {f30 : Addr} {od30 an30 : Option Addr} {sl30 : Array (Option Value)} {oc30 kV30 dc30 pm30 cd30 ct30 : Value}
    {f31 : Addr} {od31 an31 : Option Addr} {sl31 : Array (Option Value)} {oc31 kV31 dc31 pm31 cd31 ct31 : Value}
    {f32 : Addr} {od32 an32 : Option Addr} {sl32 : Array (Option Value)} {oc32 kV32 dc32 pm32 cd32 ct32 : Value}
    {f33 : Addr} {od33 an33 : Option Addr} {sl33 : Array (Option Value)} {oc33 kV33 dc33 pm33 cd33 ct33 : Value}
    {f34 : Addr} {od34 an34 : Option Addr} {sl34 : Array (Option Value)} {oc34 kV34 dc34 pm34 cd34 ct34 : Value}
    {C_Program : Addr}
    {C_Saying : Addr}
    {a_SHAPES : Addr} {es_SHAPES : Array DictEntry} {n_SHAPES : Nat} {tt_SHAPES_0 : Addr} {to_SHAPES_0 : Option Addr} {ti_SHAPES_0 : Array Value} {tn_SHAPES_0 : Nat} {ts_SHAPES_0 : Array (Option Value)} {tt_SHAPES_1 : Addr} {to_SHAPES_1 : Option Addr} {ti_SHAPES_1 : Array Value} {tn_SHAPES_1 : Nat} {ts_SHAPES_1 : Array (Option Value)} {tt_SHAPES_2 : Addr} {to_SHAPES_2 : Option Addr} {ti_SHAPES_2 : Array Value} {tn_SHAPES_2 : Nat} {ts_SHAPES_2 : Array (Option Value)} {tt_SHAPES_3 : Addr} {to_SHAPES_3 : Option Addr} {ti_SHAPES_3 : Array Value} {tn_SHAPES_3 : Nat} {ts_SHAPES_3 : Array (Option Value)} {tt_SHAPES_4 : Addr} {to_SHAPES_4 : Option Addr} {ti_SHAPES_4 : Array Value} {tn_SHAPES_4 : Nat} {ts_SHAPES_4 : Array (Option Value)}
    {t_MOST_BOXES : Tok}
    {t_MOST_ROWS : Tok}
    {a_WORDS : Addr} {es_WORDS : Array DictEntry} {n_WORDS : Nat} {tv_WORDS_0 : Tok} {tv_WORDS_1 : Tok}
    {a_TWO : Addr} {to_TWO : Option Addr} {ti_TWO : Array Value} {tn_TWO : Nat} {ts_TWO : Array (Option Value)}
    {a_ONE : Addr} {to_ONE : Option Addr} {ti_ONE : Array Value} {tn_ONE : Nat} {ts_ONE : Array (Option Value)}
    (g_Program : PySem.W.nsIn K mainGlobals "Program" = some (some (.ref C_Program)))
    (mk_Program : PySem.W.makesIn K C_Program = true)
    (kc_Program : PySem.W.keepIn K (.ref C_Program) = true)
    (pg_Program : PySem.W.plainGet K C_Program Str.empty = true)
    (hd_Program : PySem.W.hasDictIn K C_Program = true)
    (po_Program : PySem.W.plainOver K C_Program = true)
    (sa_Program : PySem.W.findIn K (.ref C_Program) "__setattr__" = some (some (.builtin "object.__setattr__")))
    (o1_Program : PySem.W.findIn K (.ref C_Program) "__ne__" = some (some (.builtin "object.__ne__")))
    (o2_Program : PySem.W.mroIn K C_Program (.type "object") = some true)
    (o3_Program : PySem.W.findIn K (.ref C_Program) "__class__" = some (some (.builtin "object.__class__")))
    (o6_Program : PySem.W.kitOne K (.ref C_Program) (.ref C_Program) = some true)
    (na_Program_boxes : PySem.W.findIn K (.ref C_Program) "boxes" = some none)
    (na_Program_rows : PySem.W.findIn K (.ref C_Program) "rows" = some none)
    (g_Saying : PySem.W.nsIn K mainGlobals "Saying" = some (some (.ref C_Saying)))
    (mk_Saying : PySem.W.makesIn K C_Saying = true)
    (kc_Saying : PySem.W.keepIn K (.ref C_Saying) = true)
    (pg_Saying : PySem.W.plainGet K C_Saying Str.empty = true)
    (hd_Saying : PySem.W.hasDictIn K C_Saying = true)
    (po_Saying : PySem.W.plainOver K C_Saying = true)
    (sa_Saying : PySem.W.findIn K (.ref C_Saying) "__setattr__" = some (some (.builtin "object.__setattr__")))
    (o1_Saying : PySem.W.findIn K (.ref C_Saying) "__ne__" = some (some (.builtin "object.__ne__")))
    (o2_Saying : PySem.W.mroIn K C_Saying (.type "object") = some true)
    (o3_Saying : PySem.W.findIn K (.ref C_Saying) "__class__" = some (some (.builtin "object.__class__")))
    (o6_Saying : PySem.W.kitOne K (.ref C_Saying) (.ref C_Saying) = some true)
    (na_Saying_word : PySem.W.findIn K (.ref C_Saying) "word" = some none)
    (na_Saying_left : PySem.W.findIn K (.ref C_Saying) "left" = some none)
    (na_Saying_right : PySem.W.findIn K (.ref C_Saying) "right" = some none)
    (o4 : PySem.W.specialIn K (.builtin "object.__class__") "__get__" = some (some (.builtin "getset_descriptor.__get__")))
    (o5 : PySem.W.takesIn K (.builtin "object.__class__") = some true)
    (a0 : PySem.W.nsIn K mainGlobals "_law_take" = some (some (.ref f0)))
    (l0 : K.lookup f0 = some ⟨oc0, od0, .func (PySem.W.fnOf "_law_take" "_law_take" (defArgs s_f_law_take) (defBody s_f_law_take) (defScope s_f_law_take) .none kV0 dc0 pm0 an0 cd0 ct0), sl0⟩)
    (c0 : PySem.W.codeIn K cd0 "_law_take" = true)
    (k0 : PySem.W.keepIn K (.ref f0) = true)
    (a1 : PySem.W.nsIn K mainGlobals "_law_piece" = some (some (.ref f1)))
    (l1 : K.lookup f1 = some ⟨oc1, od1, .func (PySem.W.fnOf "_law_piece" "_law_piece" (defArgs s_f_law_piece) (defBody s_f_law_piece) (defScope s_f_law_piece) .none kV1 dc1 pm1 an1 cd1 ct1), sl1⟩)
    (c1 : PySem.W.codeIn K cd1 "_law_piece" = true)
    (k1 : PySem.W.keepIn K (.ref f1) = true)
    (a2 : PySem.W.nsIn K mainGlobals "_law_ending_rows" = some (some (.ref f2)))
    (l2 : K.lookup f2 = some ⟨oc2, od2, .func (PySem.W.fnOf "_law_ending_rows" "_law_ending_rows" (defArgs s_f_law_ending_rows) (defBody s_f_law_ending_rows) (defScope s_f_law_ending_rows) .none kV2 dc2 pm2 an2 cd2 ct2), sl2⟩)
    (c2 : PySem.W.codeIn K cd2 "_law_ending_rows" = true)
    (k2 : PySem.W.keepIn K (.ref f2) = true)
    (a3 : PySem.W.nsIn K mainGlobals "_law_row" = some (some (.ref f3)))
    (l3 : K.lookup f3 = some ⟨oc3, od3, .func (PySem.W.fnOf "_law_row" "_law_row" (defArgs s_f_law_row) (defBody s_f_law_row) (defScope s_f_law_row) .none kV3 dc3 pm3 an3 cd3 ct3), sl3⟩)
    (c3 : PySem.W.codeIn K cd3 "_law_row" = true)
    (k3 : PySem.W.keepIn K (.ref f3) = true)
    (a4 : PySem.W.nsIn K mainGlobals "_law_any_rows" = some (some (.ref f4)))
    (l4 : K.lookup f4 = some ⟨oc4, od4, .func (PySem.W.fnOf "_law_any_rows" "_law_any_rows" (defArgs s_f_law_any_rows) (defBody s_f_law_any_rows) (defScope s_f_law_any_rows) .none kV4 dc4 pm4 an4 cd4 ct4), sl4⟩)
    (c4 : PySem.W.codeIn K cd4 "_law_any_rows" = true)
    (k4 : PySem.W.keepIn K (.ref f4) = true)
    (a5 : PySem.W.nsIn K mainGlobals "_law_some_program" = some (some (.ref f5)))
    (l5 : K.lookup f5 = some ⟨oc5, od5, .func (PySem.W.fnOf "_law_some_program" "_law_some_program" (defArgs s_f_law_some_program) (defBody s_f_law_some_program) (defScope s_f_law_some_program) .none kV5 dc5 pm5 an5 cd5 ct5), sl5⟩)
    (c5 : PySem.W.codeIn K cd5 "_law_some_program" = true)
    (k5 : PySem.W.keepIn K (.ref f5) = true)
    (a6 : PySem.W.nsIn K mainGlobals "_law_box" = some (some (.ref f6)))
    (l6 : K.lookup f6 = some ⟨oc6, od6, .func (PySem.W.fnOf "_law_box" "_law_box" (defArgs s_f_law_box) (defBody s_f_law_box) (defScope s_f_law_box) .none kV6 dc6 pm6 an6 cd6 ct6), sl6⟩)
    (c6 : PySem.W.codeIn K cd6 "_law_box" = true)
    (k6 : PySem.W.keepIn K (.ref f6) = true)
    (a7 : PySem.W.nsIn K mainGlobals "is_whole" = some (some (.ref f7)))
    (l7 : K.lookup f7 = some ⟨oc7, od7, .func (PySem.W.fnOf "is_whole" "is_whole" (defArgs s_f_is_whole) (defBody s_f_is_whole) (defScope s_f_is_whole) .none kV7 dc7 pm7 an7 cd7 ct7), sl7⟩)
    (c7 : PySem.W.codeIn K cd7 "is_whole" = true)
    (k7 : PySem.W.keepIn K (.ref f7) = true)
    (a8 : PySem.W.nsIn K mainGlobals "is_formed" = some (some (.ref f8)))
    (l8 : K.lookup f8 = some ⟨oc8, od8, .func (PySem.W.fnOf "is_formed" "is_formed" (defArgs s_f_is_formed) (defBody s_f_is_formed) (defScope s_f_is_formed) .none kV8 dc8 pm8 an8 cd8 ct8), sl8⟩)
    (c8 : PySem.W.codeIn K cd8 "is_formed" = true)
    (k8 : PySem.W.keepIn K (.ref f8) = true)
    (a9 : PySem.W.nsIn K mainGlobals "check_row" = some (some (.ref f9)))
    (l9 : K.lookup f9 = some ⟨oc9, od9, .func (PySem.W.fnOf "check_row" "check_row" (defArgs s_f_check_row) (defBody s_f_check_row) (defScope s_f_check_row) .none kV9 dc9 pm9 an9 cd9 ct9), sl9⟩)
    (c9 : PySem.W.codeIn K cd9 "check_row" = true)
    (k9 : PySem.W.keepIn K (.ref f9) = true)
    (a10 : PySem.W.nsIn K mainGlobals "check" = some (some (.ref f10)))
    (l10 : K.lookup f10 = some ⟨oc10, od10, .func (PySem.W.fnOf "check" "check" (defArgs s_f_check) (defBody s_f_check) (defScope s_f_check) .none kV10 dc10 pm10 an10 cd10 ct10), sl10⟩)
    (c10 : PySem.W.codeIn K cd10 "check" = true)
    (k10 : PySem.W.keepIn K (.ref f10) = true)
    (a11 : PySem.W.findIn K (.ref C_Program) "__init__" = some (some (.ref f11)))
    (i11 : PySem.W.isFn K (.ref f11) = true)
    (l11 : K.lookup f11 = some ⟨oc11, od11, .func (PySem.W.fnOf "__init__" "Program.__init__" (defArgs s_f_Program__init) (defBody s_f_Program__init) (defScope s_f_Program__init) .none kV11 dc11 pm11 an11 cd11 ct11), sl11⟩)
    (c11 : PySem.W.codeIn K cd11 "Program.__init__" = true)
    (k11 : PySem.W.keepIn K (.ref f11) = true)
    (a12 : PySem.W.nsIn K mainGlobals "_law_asked" = some (some (.ref f12)))
    (l12 : K.lookup f12 = some ⟨oc12, od12, .func (PySem.W.fnOf "_law_asked" "_law_asked" (defArgs s_f_law_asked) (defBody s_f_law_asked) (defScope s_f_law_asked) .none kV12 dc12 pm12 an12 cd12 ct12), sl12⟩)
    (c12 : PySem.W.codeIn K cd12 "_law_asked" = true)
    (k12 : PySem.W.keepIn K (.ref f12) = true)
    (a13 : PySem.W.nsIn K mainGlobals "_law_named" = some (some (.ref f13)))
    (l13 : K.lookup f13 = some ⟨oc13, od13, .func (PySem.W.fnOf "_law_named" "_law_named" (defArgs s_f_law_named) (defBody s_f_law_named) (defScope s_f_law_named) .none kV13 dc13 pm13 an13 cd13 ct13), sl13⟩)
    (c13 : PySem.W.codeIn K cd13 "_law_named" = true)
    (k13 : PySem.W.keepIn K (.ref f13) = true)
    (a14 : PySem.W.nsIn K mainGlobals "_law_row_sayings" = some (some (.ref f14)))
    (l14 : K.lookup f14 = some ⟨oc14, od14, .func (PySem.W.fnOf "_law_row_sayings" "_law_row_sayings" (defArgs s_f_law_row_sayings) (defBody s_f_law_row_sayings) (defScope s_f_law_row_sayings) .none kV14 dc14 pm14 an14 cd14 ct14), sl14⟩)
    (c14 : PySem.W.codeIn K cd14 "_law_row_sayings" = true)
    (k14 : PySem.W.keepIn K (.ref f14) = true)
    (a15 : PySem.W.nsIn K mainGlobals "_law_sum" = some (some (.ref f15)))
    (l15 : K.lookup f15 = some ⟨oc15, od15, .func (PySem.W.fnOf "_law_sum" "_law_sum" (defArgs s_f_law_sum) (defBody s_f_law_sum) (defScope s_f_law_sum) .none kV15 dc15 pm15 an15 cd15 ct15), sl15⟩)
    (c15 : PySem.W.codeIn K cd15 "_law_sum" = true)
    (k15 : PySem.W.keepIn K (.ref f15) = true)
    (a16 : PySem.W.nsIn K mainGlobals "_law_sayings" = some (some (.ref f16)))
    (l16 : K.lookup f16 = some ⟨oc16, od16, .func (PySem.W.fnOf "_law_sayings" "_law_sayings" (defArgs s_f_law_sayings) (defBody s_f_law_sayings) (defScope s_f_law_sayings) .none kV16 dc16 pm16 an16 cd16 ct16), sl16⟩)
    (c16 : PySem.W.codeIn K cd16 "_law_sayings" = true)
    (k16 : PySem.W.keepIn K (.ref f16) = true)
    (a17 : PySem.W.nsIn K mainGlobals "sum_of" = some (some (.ref f17)))
    (l17 : K.lookup f17 = some ⟨oc17, od17, .func (PySem.W.fnOf "sum_of" "sum_of" (defArgs s_f_sum_of) (defBody s_f_sum_of) (defScope s_f_sum_of) .none kV17 dc17 pm17 an17 cd17 ct17), sl17⟩)
    (c17 : PySem.W.codeIn K cd17 "sum_of" = true)
    (k17 : PySem.W.keepIn K (.ref f17) = true)
    (a18 : PySem.W.nsIn K mainGlobals "named" = some (some (.ref f18)))
    (l18 : K.lookup f18 = some ⟨oc18, od18, .func (PySem.W.fnOf "named" "named" (defArgs s_f_named) (defBody s_f_named) (defScope s_f_named) (.ref dT18) kV18 dc18 pm18 an18 cd18 ct18), sl18⟩)
    (dl18 : K.lookup dT18 = some ⟨dtc18, dtd18, .seq dti18 dtn18, dts18⟩)
    (dv18 : Vals [V.str ""] dti18.toList)
    (c18 : PySem.W.codeIn K cd18 "named" = true)
    (k18 : PySem.W.keepIn K (.ref f18) = true)
    (a19 : PySem.W.findIn K (.ref C_Saying) "__init__" = some (some (.ref f19)))
    (i19 : PySem.W.isFn K (.ref f19) = true)
    (l19 : K.lookup f19 = some ⟨oc19, od19, .func (PySem.W.fnOf "__init__" "Saying.__init__" (defArgs s_f_Saying__init) (defBody s_f_Saying__init) (defScope s_f_Saying__init) .none kV19 dc19 pm19 an19 cd19 ct19), sl19⟩)
    (c19 : PySem.W.codeIn K cd19 "Saying.__init__" = true)
    (k19 : PySem.W.keepIn K (.ref f19) = true)
    (a20 : PySem.W.nsIn K mainGlobals "power_at" = some (some (.ref f20)))
    (l20 : K.lookup f20 = some ⟨oc20, od20, .func (PySem.W.fnOf "power_at" "power_at" (defArgs s_f_power_at) (defBody s_f_power_at) (defScope s_f_power_at) .none kV20 dc20 pm20 an20 cd20 ct20), sl20⟩)
    (c20 : PySem.W.codeIn K cd20 "power_at" = true)
    (k20 : PySem.W.keepIn K (.ref f20) = true)
    (a21 : PySem.W.nsIn K mainGlobals "top" = some (some (.ref f21)))
    (l21 : K.lookup f21 = some ⟨oc21, od21, .func (PySem.W.fnOf "top" "top" (defArgs s_f_top) (defBody s_f_top) (defScope s_f_top) .none kV21 dc21 pm21 an21 cd21 ct21), sl21⟩)
    (c21 : PySem.W.codeIn K cd21 "top" = true)
    (k21 : PySem.W.keepIn K (.ref f21) = true)
    (a22 : PySem.W.findIn K (.ref C_Program) "__len__" = some (some (.ref f22)))
    (i22 : PySem.W.isFn K (.ref f22) = true)
    (l22 : K.lookup f22 = some ⟨oc22, od22, .func (PySem.W.fnOf "__len__" "Program.__len__" (defArgs s_f_Program__len) (defBody s_f_Program__len) (defScope s_f_Program__len) .none kV22 dc22 pm22 an22 cd22 ct22), sl22⟩)
    (c22 : PySem.W.codeIn K cd22 "Program.__len__" = true)
    (k22 : PySem.W.keepIn K (.ref f22) = true)
    (a23 : PySem.W.nsIn K mainGlobals "base_sayings" = some (some (.ref f23)))
    (l23 : K.lookup f23 = some ⟨oc23, od23, .func (PySem.W.fnOf "base_sayings" "base_sayings" (defArgs s_f_base_sayings) (defBody s_f_base_sayings) (defScope s_f_base_sayings) .none kV23 dc23 pm23 an23 cd23 ct23), sl23⟩)
    (c23 : PySem.W.codeIn K cd23 "base_sayings" = true)
    (k23 : PySem.W.keepIn K (.ref f23) = true)
    (a24 : PySem.W.nsIn K mainGlobals "goal_of" = some (some (.ref f24)))
    (l24 : K.lookup f24 = some ⟨oc24, od24, .func (PySem.W.fnOf "goal_of" "goal_of" (defArgs s_f_goal_of) (defBody s_f_goal_of) (defScope s_f_goal_of) .none kV24 dc24 pm24 an24 cd24 ct24), sl24⟩)
    (c24 : PySem.W.codeIn K cd24 "goal_of" = true)
    (k24 : PySem.W.keepIn K (.ref f24) = true)
    (a25 : PySem.W.nsIn K mainGlobals "asked_boxes" = some (some (.ref f25)))
    (l25 : K.lookup f25 = some ⟨oc25, od25, .func (PySem.W.fnOf "asked_boxes" "asked_boxes" (defArgs s_f_asked_boxes) (defBody s_f_asked_boxes) (defScope s_f_asked_boxes) .none kV25 dc25 pm25 an25 cd25 ct25), sl25⟩)
    (c25 : PySem.W.codeIn K cd25 "asked_boxes" = true)
    (k25 : PySem.W.keepIn K (.ref f25) = true)
    (a26 : PySem.W.nsIn K mainGlobals "rows_named" = some (some (.ref f26)))
    (l26 : K.lookup f26 = some ⟨oc26, od26, .func (PySem.W.fnOf "rows_named" "rows_named" (defArgs s_f_rows_named) (defBody s_f_rows_named) (defScope s_f_rows_named) .none kV26 dc26 pm26 an26 cd26 ct26), sl26⟩)
    (c26 : PySem.W.codeIn K cd26 "rows_named" = true)
    (k26 : PySem.W.keepIn K (.ref f26) = true)
    (a27 : PySem.W.nsIn K mainGlobals "time_sayings" = some (some (.ref f27)))
    (l27 : K.lookup f27 = some ⟨oc27, od27, .func (PySem.W.fnOf "time_sayings" "time_sayings" (defArgs s_f_time_sayings) (defBody s_f_time_sayings) (defScope s_f_time_sayings) .none kV27 dc27 pm27 an27 cd27 ct27), sl27⟩)
    (c27 : PySem.W.codeIn K cd27 "time_sayings" = true)
    (k27 : PySem.W.keepIn K (.ref f27) = true)
    (a28 : PySem.W.nsIn K mainGlobals "row_sayings" = some (some (.ref f28)))
    (l28 : K.lookup f28 = some ⟨oc28, od28, .func (PySem.W.fnOf "row_sayings" "row_sayings" (defArgs s_f_row_sayings) (defBody s_f_row_sayings) (defScope s_f_row_sayings) .none kV28 dc28 pm28 an28 cd28 ct28), sl28⟩)
    (c28 : PySem.W.codeIn K cd28 "row_sayings" = true)
    (k28 : PySem.W.keepIn K (.ref f28) = true)
    (a29 : PySem.W.nsIn K mainGlobals "moves_of" = some (some (.ref f29)))
    (l29 : K.lookup f29 = some ⟨oc29, od29, .func (PySem.W.fnOf "moves_of" "moves_of" (defArgs s_f_moves_of) (defBody s_f_moves_of) (defScope s_f_moves_of) .none kV29 dc29 pm29 an29 cd29 ct29), sl29⟩)
    (c29 : PySem.W.codeIn K cd29 "moves_of" = true)
    (k29 : PySem.W.keepIn K (.ref f29) = true)
    (a30 : PySem.W.nsIn K mainGlobals "box_saying" = some (some (.ref f30)))
    (l30 : K.lookup f30 = some ⟨oc30, od30, .func (PySem.W.fnOf "box_saying" "box_saying" (defArgs s_f_box_saying) (defBody s_f_box_saying) (defScope s_f_box_saying) .none kV30 dc30 pm30 an30 cd30 ct30), sl30⟩)
    (c30 : PySem.W.codeIn K cd30 "box_saying" = true)
    (k30 : PySem.W.keepIn K (.ref f30) = true)
    (a31 : PySem.W.nsIn K mainGlobals "sayings_of" = some (some (.ref f31)))
    (l31 : K.lookup f31 = some ⟨oc31, od31, .func (PySem.W.fnOf "sayings_of" "sayings_of" (defArgs s_f_sayings_of) (defBody s_f_sayings_of) (defScope s_f_sayings_of) .none kV31 dc31 pm31 an31 cd31 ct31), sl31⟩)
    (c31 : PySem.W.codeIn K cd31 "sayings_of" = true)
    (k31 : PySem.W.keepIn K (.ref f31) = true)
    (a32 : PySem.W.findIn K (.ref C_Program) "__eq__" = some (some (.ref f32)))
    (i32 : PySem.W.isFn K (.ref f32) = true)
    (l32 : K.lookup f32 = some ⟨oc32, od32, .func (PySem.W.fnOf "__eq__" "Program.__eq__" (defArgs s_f_Program__eq) (defBody s_f_Program__eq) (defScope s_f_Program__eq) .none kV32 dc32 pm32 an32 cd32 ct32), sl32⟩)
    (c32 : PySem.W.codeIn K cd32 "Program.__eq__" = true)
    (k32 : PySem.W.keepIn K (.ref f32) = true)
    (a33 : PySem.W.nsIn K mainGlobals "_law_right" = some (some (.ref f33)))
    (l33 : K.lookup f33 = some ⟨oc33, od33, .func (PySem.W.fnOf "_law_right" "_law_right" (defArgs s_f_law_right) (defBody s_f_law_right) (defScope s_f_law_right) .none kV33 dc33 pm33 an33 cd33 ct33), sl33⟩)
    (c33 : PySem.W.codeIn K cd33 "_law_right" = true)
    (k33 : PySem.W.keepIn K (.ref f33) = true)
    (a34 : PySem.W.nsIn K mainGlobals "law" = some (some (.ref f34)))
    (l34 : K.lookup f34 = some ⟨oc34, od34, .func (PySem.W.fnOf "law" "law" (defArgs s_f_law) (defBody s_f_law) (defScope s_f_law) .none kV34 dc34 pm34 an34 cd34 ct34), sl34⟩)
    (c34 : PySem.W.codeIn K cd34 "law" = true)
    (k34 : PySem.W.keepIn K (.ref f34) = true)
    (z_range : PySem.W.nsIn K mainGlobals "range" = some none)
    (z_len : PySem.W.nsIn K mainGlobals "len" = some none)
    (z_int : PySem.W.nsIn K mainGlobals "int" = some none)
    (z_isinstance : PySem.W.nsIn K mainGlobals "isinstance" = some none)
    (z_bool : PySem.W.nsIn K mainGlobals "bool" = some none)
    (z_all : PySem.W.nsIn K mainGlobals "all" = some none)
    (z_zip : PySem.W.nsIn K mainGlobals "zip" = some none)
    (z_enumerate : PySem.W.nsIn K mainGlobals "enumerate" = some none)
    (z_tuple : PySem.W.nsIn K mainGlobals "tuple" = some none)
    (z_str : PySem.W.nsIn K mainGlobals "str" = some none)
    (z_list : PySem.W.nsIn K mainGlobals "list" = some none)
    (z_sorted : PySem.W.nsIn K mainGlobals "sorted" = some none)
    (z_repr : PySem.W.nsIn K mainGlobals "repr" = some none)
    (z_max : PySem.W.nsIn K mainGlobals "max" = some none)
    (z_min : PySem.W.nsIn K mainGlobals "min" = some none)
    (y_SHAPES : PySem.W.nsIn K mainGlobals "SHAPES" = some (some (.ref a_SHAPES)))
    (ld_SHAPES : K.lookup a_SHAPES = some ⟨.type "dict", none, .dict es_SHAPES n_SHAPES, #[]⟩)
    (kl_SHAPES : PySem.W.KeysLit w.params es_SHAPES.toList)
    (sm_SHAPES : (a_SHAPES == sysModules) = false)
    (v_SHAPES_0 : PySem.W.nsIn K a_SHAPES "raise" = some (some (.ref tt_SHAPES_0)))
    (lt_SHAPES_0 : K.lookup tt_SHAPES_0 = some ⟨.type "tuple", to_SHAPES_0, .seq ti_SHAPES_0 tn_SHAPES_0, ts_SHAPES_0⟩)
    (vt_SHAPES_0 : ti_SHAPES_0.size ≤ sizeLine ∧ Vals ([Str.ofString "box"].map V.str) ti_SHAPES_0.toList)
    (v_SHAPES_1 : PySem.W.nsIn K a_SHAPES "lower" = some (some (.ref tt_SHAPES_1)))
    (lt_SHAPES_1 : K.lookup tt_SHAPES_1 = some ⟨.type "tuple", to_SHAPES_1, .seq ti_SHAPES_1 tn_SHAPES_1, ts_SHAPES_1⟩)
    (vt_SHAPES_1 : ti_SHAPES_1.size ≤ sizeLine ∧ Vals ([Str.ofString "box"].map V.str) ti_SHAPES_1.toList)
    (v_SHAPES_2 : PySem.W.nsIn K a_SHAPES "if" = some (some (.ref tt_SHAPES_2)))
    (lt_SHAPES_2 : K.lookup tt_SHAPES_2 = some ⟨.type "tuple", to_SHAPES_2, .seq ti_SHAPES_2 tn_SHAPES_2, ts_SHAPES_2⟩)
    (vt_SHAPES_2 : ti_SHAPES_2.size ≤ sizeLine ∧ Vals ([Str.ofString "box", Str.ofString "goal"].map V.str) ti_SHAPES_2.toList)
    (v_SHAPES_3 : PySem.W.nsIn K a_SHAPES "go" = some (some (.ref tt_SHAPES_3)))
    (lt_SHAPES_3 : K.lookup tt_SHAPES_3 = some ⟨.type "tuple", to_SHAPES_3, .seq ti_SHAPES_3 tn_SHAPES_3, ts_SHAPES_3⟩)
    (vt_SHAPES_3 : ti_SHAPES_3.size ≤ sizeLine ∧ Vals ([Str.ofString "goal"].map V.str) ti_SHAPES_3.toList)
    (v_SHAPES_4 : PySem.W.nsIn K a_SHAPES "stop" = some (some (.ref tt_SHAPES_4)))
    (lt_SHAPES_4 : K.lookup tt_SHAPES_4 = some ⟨.type "tuple", to_SHAPES_4, .seq ti_SHAPES_4 tn_SHAPES_4, ts_SHAPES_4⟩)
    (vt_SHAPES_4 : ti_SHAPES_4.size ≤ sizeLine ∧ Vals ([].map V.str) ti_SHAPES_4.toList)
    (y_MOST_BOXES : PySem.W.nsIn K mainGlobals "MOST_BOXES" = some (some (.int 5 t_MOST_BOXES)))
    (y_MOST_ROWS : PySem.W.nsIn K mainGlobals "MOST_ROWS" = some (some (.int 14 t_MOST_ROWS)))
    (y_WORDS : PySem.W.nsIn K mainGlobals "WORDS" = some (some (.ref a_WORDS)))
    (ld_WORDS : K.lookup a_WORDS = some ⟨.type "dict", none, .dict es_WORDS n_WORDS, #[]⟩)
    (kl_WORDS : PySem.W.KeysLit w.params es_WORDS.toList)
    (sm_WORDS : (a_WORDS == sysModules) = false)
    (v_WORDS_0 : PySem.W.nsIn K a_WORDS "same" = some (some (.str "=" tv_WORDS_0)))
    (v_WORDS_1 : PySem.W.nsIn K a_WORDS "under" = some (some (.str "under" tv_WORDS_1)))
    (y_TWO : PySem.W.nsIn K mainGlobals "TWO" = some (some (.ref a_TWO)))
    (lt_TWO : K.lookup a_TWO = some ⟨.type "tuple", to_TWO, .seq ti_TWO tn_TWO, ts_TWO⟩)
    (vt_TWO : ti_TWO.size ≤ sizeLine ∧ Vals [V.str "num", V.int 2] ti_TWO.toList)
    (y_ONE : PySem.W.nsIn K mainGlobals "ONE" = some (some (.ref a_ONE)))
    (lt_ONE : K.lookup a_ONE = some ⟨.type "tuple", to_ONE, .seq ti_ONE tn_ONE, ts_ONE⟩)
    (vt_ONE : ti_ONE.size ≤ sizeLine ∧ Vals [V.str "num", V.int 1] ti_ONE.toList)
    : ∃ fd : FuncData, (∀ (s : Shared) (v : Value), BindsTo s fd ⟨[v], []⟩ [("script", v)]) ∧ ∀ base : Heap, K.In base → base.Ns mainGlobals mg → FnG l.prog w K mg base CX0 8 fa fd ["script"] (sp_f_law K) := by
  have e := hfa.symm.trans (PySem.W.mg_of X G a34)
  cases e
  have m_range : mg "range" = none := PySem.W.mg_none_of X G z_range
  have m_len : mg "len" = none := PySem.W.mg_none_of X G z_len
  have m_int : mg "int" = none := PySem.W.mg_none_of X G z_int
  have m_isinstance : mg "isinstance" = none := PySem.W.mg_none_of X G z_isinstance
  have m_bool : mg "bool" = none := PySem.W.mg_none_of X G z_bool
  have m_all : mg "all" = none := PySem.W.mg_none_of X G z_all
  have m_zip : mg "zip" = none := PySem.W.mg_none_of X G z_zip
  have m_enumerate : mg "enumerate" = none := PySem.W.mg_none_of X G z_enumerate
  have m_tuple : mg "tuple" = none := PySem.W.mg_none_of X G z_tuple
  have m_str : mg "str" = none := PySem.W.mg_none_of X G z_str
  have m_list : mg "list" = none := PySem.W.mg_none_of X G z_list
  have m_sorted : mg "sorted" = none := PySem.W.mg_none_of X G z_sorted
  have m_repr : mg "repr" = none := PySem.W.mg_none_of X G z_repr
  have m_max : mg "max" = none := PySem.W.mg_none_of X G z_max
  have m_min : mg "min" = none := PySem.W.mg_none_of X G z_min
  have c_SHAPES := PySem.W.mg_of X G y_SHAPES
  have d_SHAPES : KDt K w a_SHAPES [(Str.ofString "raise", [Str.ofString "box"]), (Str.ofString "lower", [Str.ofString "box"]), (Str.ofString "if", [Str.ofString "box", Str.ofString "goal"]), (Str.ofString "go", [Str.ofString "goal"]), (Str.ofString "stop", [])] := by
    refine ⟨sm_SHAPES, fun z hz => ?_⟩
    rcases List.mem_cons.mp hz with rfl | hz
    · exact ⟨tt_SHAPES_0, ⟨_, _, _, ld_SHAPES, kl_SHAPES, v_SHAPES_0, rfl⟩, fun H => .inr ⟨_, _, _, lt_SHAPES_0, rfl, rfl, vt_SHAPES_0.1, vt_SHAPES_0.2⟩⟩
    rcases List.mem_cons.mp hz with rfl | hz
    · exact ⟨tt_SHAPES_1, ⟨_, _, _, ld_SHAPES, kl_SHAPES, v_SHAPES_1, rfl⟩, fun H => .inr ⟨_, _, _, lt_SHAPES_1, rfl, rfl, vt_SHAPES_1.1, vt_SHAPES_1.2⟩⟩
    rcases List.mem_cons.mp hz with rfl | hz
    · exact ⟨tt_SHAPES_2, ⟨_, _, _, ld_SHAPES, kl_SHAPES, v_SHAPES_2, rfl⟩, fun H => .inr ⟨_, _, _, lt_SHAPES_2, rfl, rfl, vt_SHAPES_2.1, vt_SHAPES_2.2⟩⟩
    rcases List.mem_cons.mp hz with rfl | hz
    · exact ⟨tt_SHAPES_3, ⟨_, _, _, ld_SHAPES, kl_SHAPES, v_SHAPES_3, rfl⟩, fun H => .inr ⟨_, _, _, lt_SHAPES_3, rfl, rfl, vt_SHAPES_3.1, vt_SHAPES_3.2⟩⟩
    rcases List.mem_cons.mp hz with rfl | hz
    · exact ⟨tt_SHAPES_4, ⟨_, _, _, ld_SHAPES, kl_SHAPES, v_SHAPES_4, rfl⟩, fun H => .inr ⟨_, _, _, lt_SHAPES_4, rfl, rfl, vt_SHAPES_4.1, vt_SHAPES_4.2⟩⟩
    cases hz
  have c_MOST_BOXES := PySem.W.mg_of X G y_MOST_BOXES
  have c_MOST_ROWS := PySem.W.mg_of X G y_MOST_ROWS
  have c_WORDS := PySem.W.mg_of X G y_WORDS
  have d_WORDS : KDs K w a_WORDS ["same", "under"] := by
    refine ⟨sm_WORDS, fun z hz => ?_⟩
    rcases List.mem_cons.mp hz with rfl | hz
    · exact ⟨.str (Str.ofString "="), _, _, _, ld_WORDS, kl_WORDS, v_WORDS_0, ⟨_, rfl⟩⟩
    rcases List.mem_cons.mp hz with rfl | hz
    · exact ⟨.str (Str.ofString "under"), _, _, _, ld_WORDS, kl_WORDS, v_WORDS_1, ⟨_, rfl⟩⟩
    cases hz
  have c_TWO := PySem.W.mg_of X G y_TWO
  have d_TWO : ∀ H : Hp, SqT K H a_TWO [V.str "num", V.int 2] := fun H => .inr ⟨_, _, _, lt_TWO, rfl, rfl, vt_TWO.1, vt_TWO.2⟩
  have c_ONE := PySem.W.mg_of X G y_ONE
  have d_ONE : ∀ H : Hp, SqT K H a_ONE [V.str "num", V.int 1] := fun H => .inr ⟨_, _, _, lt_ONE, rfl, rfl, vt_ONE.1, vt_ONE.2⟩
  have SC_Program : ClsN K "Program" C_Program ["boxes", "rows"] := ⟨⟨⟨pg_Program, hd_Program, po_Program, sa_Program⟩, by
    intro f hf
    rcases List.mem_cons.mp hf with rfl | hf
    · exact na_Program_boxes
    rcases List.mem_cons.mp hf with rfl | hf
    · exact na_Program_rows
    cases hf⟩, g_Program⟩
  have OC_Program : ClsO K C_Program := ⟨o1_Program, o2_Program, o3_Program, o4, o5, o6_Program⟩
  have n_Program := PySem.W.mg_of X G g_Program
  have SC_Saying : ClsN K "Saying" C_Saying ["word", "left", "right"] := ⟨⟨⟨pg_Saying, hd_Saying, po_Saying, sa_Saying⟩, by
    intro f hf
    rcases List.mem_cons.mp hf with rfl | hf
    · exact na_Saying_word
    rcases List.mem_cons.mp hf with rfl | hf
    · exact na_Saying_left
    rcases List.mem_cons.mp hf with rfl | hf
    · exact na_Saying_right
    cases hf⟩, g_Saying⟩
  have OC_Saying : ClsO K C_Saying := ⟨o1_Saying, o2_Saying, o3_Saying, o4, o5, o6_Saying⟩
  have n_Saying := PySem.W.mg_of X G g_Saying
  have F0 := fun_mk (st := s_f_law_take) l0 c0 k0
  have F1 := fun_mk (st := s_f_law_piece) l1 c1 k1
  have F2 := fun_mk (st := s_f_law_ending_rows) l2 c2 k2
  have F3 := fun_mk (st := s_f_law_row) l3 c3 k3
  have F4 := fun_mk (st := s_f_law_any_rows) l4 c4 k4
  have F5 := fun_mk (st := s_f_law_some_program) l5 c5 k5
  have F6 := fun_mk (st := s_f_law_box) l6 c6 k6
  have F7 := fun_mk (st := s_f_is_whole) l7 c7 k7
  have F8 := fun_mk (st := s_f_is_formed) l8 c8 k8
  have F9 := fun_mk (st := s_f_check_row) l9 c9 k9
  have F10 := fun_mk (st := s_f_check) l10 c10 k10
  have F11 := fun_mk (st := s_f_Program__init) l11 c11 k11
  have F12 := fun_mk (st := s_f_law_asked) l12 c12 k12
  have F13 := fun_mk (st := s_f_law_named) l13 c13 k13
  have F14 := fun_mk (st := s_f_law_row_sayings) l14 c14 k14
  have F15 := fun_mk (st := s_f_law_sum) l15 c15 k15
  have F16 := fun_mk (st := s_f_law_sayings) l16 c16 k16
  have F17 := fun_mk (st := s_f_sum_of) l17 c17 k17
  have F18 := fund_mk (st := s_f_named) l18 c18 k18 dl18 dv18 (by intro h; cases h)
  have F19 := fun_mk (st := s_f_Saying__init) l19 c19 k19
  have F20 := fun_mk (st := s_f_power_at) l20 c20 k20
  have F21 := fun_mk (st := s_f_top) l21 c21 k21
  have F22 := fun_mk (st := s_f_Program__len) l22 c22 k22
  have F23 := fun_mk (st := s_f_base_sayings) l23 c23 k23
  have F24 := fun_mk (st := s_f_goal_of) l24 c24 k24
  have F25 := fun_mk (st := s_f_asked_boxes) l25 c25 k25
  have F26 := fun_mk (st := s_f_rows_named) l26 c26 k26
  have F27 := fun_mk (st := s_f_time_sayings) l27 c27 k27
  have F28 := fun_mk (st := s_f_row_sayings) l28 c28 k28
  have F29 := fun_mk (st := s_f_moves_of) l29 c29 k29
  have F30 := fun_mk (st := s_f_box_saying) l30 c30 k30
  have F31 := fun_mk (st := s_f_sayings_of) l31 c31 k31
  have F32 := fun_mk (st := s_f_Program__eq) l32 c32 k32
  have F33 := fun_mk (st := s_f_law_right) l33 c33 k33
  have F34 := fun_mk (st := s_f_law) l34 c34 k34
  refine ⟨PySem.W.fnOf "law" "law" (defArgs s_f_law) (defBody s_f_law) (defScope s_f_law) .none kV34 dc34 pm34 an34 cd34 ct34, fun s v => .of_eq rfl, fun base _ _ => ?_⟩
  have O0 : FnG l.prog w K mg base CX0 1 f0 _ ["box", "wide"] (sp_f_law_take K) := ok_f_law_take F0
  have D_f_law_take : Def l.prog w K mg base CX0 "_law_take" 1 ["box", "wide"] (sp_f_law_take K) := ⟨f0, _, PySem.W.mg_of X G a0, O0, k0, F0.binds (ps := ["box", "wide"]) fun _ _ _ _ _ _ us hl => match us, hl with | [_, _], _ => rfl⟩
  have O1 : FnG l.prog w K mg base CX0 2 f1 _ ["box", "boxes", "at"] (sp_f_law_piece K) := ok_f_law_piece F1 D_f_law_take m_range m_len m_int
  have D_f_law_piece : Def l.prog w K mg base CX0 "_law_piece" 2 ["box", "boxes", "at"] (sp_f_law_piece K) := ⟨f1, _, PySem.W.mg_of X G a1, O1, k1, F1.binds (ps := ["box", "boxes", "at"]) fun _ _ _ _ _ _ us hl => match us, hl with | [_, _, _], _ => rfl⟩
  have O2 : FnG l.prog w K mg base CX0 3 f2 _ ["box", "boxes"] (sp_f_law_ending_rows K) := ok_f_law_ending_rows F2 D_f_law_piece D_f_law_take m_range m_len
  have D_f_law_ending_rows : Def l.prog w K mg base CX0 "_law_ending_rows" 3 ["box", "boxes"] (sp_f_law_ending_rows K) := ⟨f2, _, PySem.W.mg_of X G a2, O2, k2, F2.binds (ps := ["box", "boxes"]) fun _ _ _ _ _ _ us hl => match us, hl with | [_, _], _ => rfl⟩
  have O3 : FnG l.prog w K mg base CX0 2 f3 _ ["box", "boxes", "many"] (sp_f_law_row K) := ok_f_law_row F3 D_f_law_take
  have D_f_law_row : Def l.prog w K mg base CX0 "_law_row" 2 ["box", "boxes", "many"] (sp_f_law_row K) := ⟨f3, _, PySem.W.mg_of X G a3, O3, k3, F3.binds (ps := ["box", "boxes", "many"]) fun _ _ _ _ _ _ us hl => match us, hl with | [_, _, _], _ => rfl⟩
  have O4 : FnG l.prog w K mg base CX0 3 f4 _ ["box", "boxes"] (sp_f_law_any_rows K) := ok_f_law_any_rows F4 D_f_law_take D_f_law_row m_range
  have D_f_law_any_rows : Def l.prog w K mg base CX0 "_law_any_rows" 3 ["box", "boxes"] (sp_f_law_any_rows K) := ⟨f4, _, PySem.W.mg_of X G a4, O4, k4, F4.binds (ps := ["box", "boxes"]) fun _ _ _ _ _ _ us hl => match us, hl with | [_, _], _ => rfl⟩
  have O5 : FnG l.prog w K mg base CX0 4 f5 _ ["box"] (sp_f_law_some_program K) := ok_f_law_some_program F5 D_f_law_take D_f_law_ending_rows D_f_law_any_rows
  have D_f_law_some_program : Def l.prog w K mg base CX0 "_law_some_program" 4 ["box"] (sp_f_law_some_program K) := ⟨f5, _, PySem.W.mg_of X G a5, O5, k5, F5.binds (ps := ["box"]) fun _ _ _ _ _ _ us hl => match us, hl with | [_], _ => rfl⟩
  have O6 : FnG l.prog w K mg base CX0 1 f6 _ ["script", "k"] (sp_f_law_box K) := ok_f_law_box F6 m_len m_int
  have D_f_law_box : Def l.prog w K mg base CX0 "_law_box" 1 ["script", "k"] (sp_f_law_box K) := ⟨f6, _, PySem.W.mg_of X G a6, O6, k6, F6.binds (ps := ["script", "k"]) fun _ _ _ _ _ _ us hl => match us, hl with | [_, _], _ => rfl⟩
  have O7 : FnG l.prog w K mg base CX0 1 f7 _ ["thing"] (sp_f_is_whole K) := ok_f_is_whole F7 m_isinstance m_int m_bool
  have D_f_is_whole : Def l.prog w K mg base CX0 "is_whole" 1 ["thing"] (sp_f_is_whole K) := ⟨f7, _, PySem.W.mg_of X G a7, O7, k7, F7.binds (ps := ["thing"]) fun _ _ _ _ _ _ us hl => match us, hl with | [_], _ => rfl⟩
  have O8 : FnG l.prog w K mg base CX0 2 f8 _ ["row"] (sp_f_is_formed K) := ok_f_is_formed F8 D_f_is_whole m_all m_len c_SHAPES d_SHAPES
  have D_f_is_formed : Def l.prog w K mg base CX0 "is_formed" 2 ["row"] (sp_f_is_formed K) := ⟨f8, _, PySem.W.mg_of X G a8, O8, k8, F8.binds (ps := ["row"]) fun _ _ _ _ _ _ us hl => match us, hl with | [_], _ => rfl⟩
  have O9 : FnG l.prog w K mg base CX0 3 f9 _ ["row", "boxes", "many", "at"] (sp_f_check_row K) := ok_f_check_row F9 D_f_is_formed m_zip m_int c_SHAPES d_SHAPES
  have D_f_check_row : Def l.prog w K mg base CX0 "check_row" 3 ["row", "boxes", "many", "at"] (sp_f_check_row K) := ⟨f9, _, PySem.W.mg_of X G a9, O9, k9, F9.binds (ps := ["row", "boxes", "many", "at"]) fun _ _ _ _ _ _ us hl => match us, hl with | [_, _, _, _], _ => rfl⟩
  have O10 : FnG l.prog w K mg base CX0 4 f10 _ ["boxes", "rows"] (sp_f_check K) := ok_f_check F10 D_f_check_row m_enumerate m_len c_MOST_BOXES c_MOST_ROWS
  have D_f_check : Def l.prog w K mg base CX0 "check" 4 ["boxes", "rows"] (sp_f_check K) := ⟨f10, _, PySem.W.mg_of X G a10, O10, k10, F10.binds (ps := ["boxes", "rows"]) fun _ _ _ _ _ _ us hl => match us, hl with | [_, _], _ => rfl⟩
  have O11 : FnG l.prog w K mg base CX0 5 f11 _ ["self", "boxes", "rows"] (sp_f_Program__init K) := ok_f_Program__init F11 D_f_check m_tuple
  have G_Program : DefM l.prog w K mg base CX0 "Program" 5 ["self", "boxes", "rows"] (sp_f_Program__init K) C_Program := ⟨f11, _, PySem.W.mg_of X G g_Program, ⟨mk_Program, a11, i11, kc_Program⟩, O11, F11.binds (ps := ["self", "boxes", "rows"]) fun _ _ _ _ _ _ us hl => match us, hl with | [_, _, _], _ => rfl⟩
  have O12 : FnG l.prog w K mg base CX0 1 f12 _ ["boxes", "rows"] (sp_f_law_asked K) := ok_f_law_asked F12 m_range m_enumerate
  have D_f_law_asked : Def l.prog w K mg base CX0 "_law_asked" 1 ["boxes", "rows"] (sp_f_law_asked K) := ⟨f12, _, PySem.W.mg_of X G a12, O12, k12, F12.binds (ps := ["boxes", "rows"]) fun _ _ _ _ _ _ us hl => match us, hl with | [_, _], _ => rfl⟩
  have O13 : FnG l.prog w K mg base CX0 1 f13 _ ["letter", "numbers"] (sp_f_law_named K) := ok_f_law_named F13 m_str
  have D_f_law_named : Def l.prog w K mg base CX0 "_law_named" 1 ["letter", "numbers"] (sp_f_law_named K) := ⟨f13, _, PySem.W.mg_of X G a13, O13, k13, F13.binds (ps := ["letter", "numbers"]) fun _ _ _ _ _ _ us hl => match us, hl with | [_, _], _ => rfl⟩
  have O14 : FnG l.prog w K mg base CX0 1 f14 _ ["rows", "k", "done", "left"] (sp_f_law_row_sayings K) := ok_f_law_row_sayings F14 m_str
  have D_f_law_row_sayings : Def l.prog w K mg base CX0 "_law_row_sayings" 1 ["rows", "k", "done", "left"] (sp_f_law_row_sayings K) := ⟨f14, _, PySem.W.mg_of X G a14, O14, k14, F14.binds (ps := ["rows", "k", "done", "left"]) fun _ _ _ _ _ _ us hl => match us, hl with | [_, _, _, _], _ => rfl⟩
  have O15 : FnG l.prog w K mg base CX0 1 f15 _ ["terms"] (sp_f_law_sum K) := ok_f_law_sum F15 m_len
  have D_f_law_sum : Def l.prog w K mg base CX0 "_law_sum" 1 ["terms"] (sp_f_law_sum K) := ⟨f15, _, PySem.W.mg_of X G a15, O15, k15, F15.binds (ps := ["terms"]) fun _ _ _ _ _ _ us hl => match us, hl with | [_], _ => rfl⟩
  have O16 : FnG l.prog w K mg base CX0 2 f16 _ ["boxes", "rows"] (sp_f_law_sayings K) := ok_f_law_sayings F16 D_f_law_asked D_f_law_named D_f_law_row_sayings D_f_law_sum m_enumerate m_range m_list m_str m_len
  have D_f_law_sayings : Def l.prog w K mg base CX0 "_law_sayings" 2 ["boxes", "rows"] (sp_f_law_sayings K) := ⟨f16, _, PySem.W.mg_of X G a16, O16, k16, F16.binds (ps := ["boxes", "rows"]) fun _ _ _ _ _ _ us hl => match us, hl with | [_, _], _ => rfl⟩
  have O17 : FnG l.prog w K mg base CX0 1 f17 _ ["terms"] (sp_f_sum_of K) := ok_f_sum_of F17 m_enumerate m_int
  have D_f_sum_of : Def l.prog w K mg base CX0 "sum_of" 1 ["terms"] (sp_f_sum_of K) := ⟨f17, _, PySem.W.mg_of X G a17, O17, k17, F17.binds (ps := ["terms"]) fun _ _ _ _ _ _ us hl => match us, hl with | [_], _ => rfl⟩
  have O18 : FnG l.prog w K mg base CX0 1 f18 _ ["letter", "number"] (sp_f_named K) := ok_f_named F18
  obtain ⟨kg_f_named_p1, kh_f_named_p1⟩ := kb_f_named_p1 F18
  have DK_f_named_p1 : DefK l.prog w K mg base CX0 "named" 1 ["letter", "number"] [] gk_f_named_p1 (sp_f_named K) := ⟨f18, _, _, PySem.W.mg_of X G a18, O18, k18, kh_f_named_p1⟩
  obtain ⟨kg_f_named_p2, kh_f_named_p2⟩ := kb_f_named_p2 F18
  have DK_f_named_p2 : DefK l.prog w K mg base CX0 "named" 1 ["letter", "number"] [] gk_f_named_p2 (sp_f_named K) := ⟨f18, _, _, PySem.W.mg_of X G a18, O18, k18, kh_f_named_p2⟩
  have O19 : FnG l.prog w K mg base CX0 1 f19 _ ["self", "word", "left", "right"] (sp_f_Saying__init K) := ok_f_Saying__init F19 c_WORDS d_WORDS
  have G_Saying : DefM l.prog w K mg base CX0 "Saying" 1 ["self", "word", "left", "right"] (sp_f_Saying__init K) C_Saying := ⟨f19, _, PySem.W.mg_of X G g_Saying, ⟨mk_Saying, a19, i19, kc_Saying⟩, O19, F19.binds (ps := ["self", "word", "left", "right"]) fun _ _ _ _ _ _ us hl => match us, hl with | [_, _, _, _], _ => rfl⟩
  have O20 : FnG l.prog w K mg base CX0 2 f20 _ ["steps"] (sp_f_power_at K) := ok_f_power_at F20 DK_f_named_p1 c_TWO d_TWO
  have D_f_power_at : Def l.prog w K mg base CX0 "power_at" 2 ["steps"] (sp_f_power_at K) := ⟨f20, _, PySem.W.mg_of X G a20, O20, k20, F20.binds (ps := ["steps"]) fun _ _ _ _ _ _ us hl => match us, hl with | [_], _ => rfl⟩
  have O21 : FnG l.prog w K mg base CX0 3 f21 _ [] (sp_f_top K) := ok_f_top F21 D_f_power_at DK_f_named_p1 c_ONE d_ONE
  have D_f_top : Def l.prog w K mg base CX0 "top" 3 [] (sp_f_top K) := ⟨f21, _, PySem.W.mg_of X G a21, O21, k21, F21.binds (ps := []) fun _ _ _ _ _ _ us hl => match us, hl with | [], _ => rfl⟩
  have O22 : FnG l.prog w K mg base CX0 1 f22 _ ["self"] (sp_f_Program__len K) := ok_f_Program__len F22 m_len
  have M_Program_len : DefO l.prog w K mg base CX0 C_Program "__len__" 1 ["self"] (sp_f_Program__len K) := ⟨f22, _, a22, i22, O22, F22.binds (ps := ["self"]) fun _ _ _ _ _ _ us hl => match us, hl with | [_], _ => rfl⟩
  have O23 : FnG l.prog w K mg base CX0 4 f23 _ ["program"] (sp_f_base_sayings K) := ok_f_base_sayings F23 D_f_sum_of G_Saying SC_Saying D_f_top M_Program_len SC_Program OC_Program DK_f_named_p1 DK_f_named_p2 m_range m_len c_TWO d_TWO c_ONE d_ONE
  have D_f_base_sayings : Def l.prog w K mg base CX0 "base_sayings" 4 ["program"] (sp_f_base_sayings K) := ⟨f23, _, PySem.W.mg_of X G a23, O23, k23, F23.binds (ps := ["program"]) fun _ _ _ _ _ _ us hl => match us, hl with | [_], _ => rfl⟩
  have O24 : FnG l.prog w K mg base CX0 1 f24 _ ["program", "k"] (sp_f_goal_of K) := ok_f_goal_of F24
  have D_f_goal_of : Def l.prog w K mg base CX0 "goal_of" 1 ["program", "k"] (sp_f_goal_of K) := ⟨f24, _, PySem.W.mg_of X G a24, O24, k24, F24.binds (ps := ["program", "k"]) fun _ _ _ _ _ _ us hl => match us, hl with | [_, _], _ => rfl⟩
  have O25 : FnG l.prog w K mg base CX0 2 f25 _ ["program"] (sp_f_asked_boxes K) := ok_f_asked_boxes F25 D_f_goal_of m_enumerate m_sorted
  have D_f_asked_boxes : Def l.prog w K mg base CX0 "asked_boxes" 2 ["program"] (sp_f_asked_boxes K) := ⟨f25, _, PySem.W.mg_of X G a25, O25, k25, F25.binds (ps := ["program"]) fun _ _ _ _ _ _ us hl => match us, hl with | [_], _ => rfl⟩
  have O26 : FnG l.prog w K mg base CX0 2 f26 _ ["rows"] (sp_f_rows_named K) := ok_f_rows_named F26 DK_f_named_p2
  have D_f_rows_named : Def l.prog w K mg base CX0 "rows_named" 2 ["rows"] (sp_f_rows_named K) := ⟨f26, _, PySem.W.mg_of X G a26, O26, k26, F26.binds (ps := ["rows"]) fun _ _ _ _ _ _ us hl => match us, hl with | [_], _ => rfl⟩
  have O27 : FnG l.prog w K mg base CX0 3 f27 _ ["program"] (sp_f_time_sayings K) := ok_f_time_sayings F27 D_f_asked_boxes G_Saying SC_Saying D_f_sum_of D_f_power_at D_f_rows_named M_Program_len SC_Program OC_Program DK_f_named_p2 DK_f_named_p1 m_list m_range m_len c_ONE d_ONE c_TWO d_TWO
  have D_f_time_sayings : Def l.prog w K mg base CX0 "time_sayings" 3 ["program"] (sp_f_time_sayings K) := ⟨f27, _, PySem.W.mg_of X G a27, O27, k27, F27.binds (ps := ["program"]) fun _ _ _ _ _ _ us hl => match us, hl with | [_], _ => rfl⟩
  have O28 : FnG l.prog w K mg base CX0 3 f28 _ ["program", "k"] (sp_f_row_sayings K) := ok_f_row_sayings F28 G_Saying SC_Saying D_f_goal_of DK_f_named_p2 DK_f_named_p1
  have D_f_row_sayings : Def l.prog w K mg base CX0 "row_sayings" 3 ["program", "k"] (sp_f_row_sayings K) := ⟨f28, _, PySem.W.mg_of X G a28, O28, k28, F28.binds (ps := ["program", "k"]) fun _ _ _ _ _ _ us hl => match us, hl with | [_, _], _ => rfl⟩
  have O29 : FnG l.prog w K mg base CX0 1 f29 _ ["program", "j", "word"] (sp_f_moves_of K) := ok_f_moves_of F29 m_enumerate
  have D_f_moves_of : Def l.prog w K mg base CX0 "moves_of" 1 ["program", "j", "word"] (sp_f_moves_of K) := ⟨f29, _, PySem.W.mg_of X G a29, O29, k29, F29.binds (ps := ["program", "j", "word"]) fun _ _ _ _ _ _ us hl => match us, hl with | [_, _, _], _ => rfl⟩
  have O30 : FnG l.prog w K mg base CX0 4 f30 _ ["program", "j"] (sp_f_box_saying K) := ok_f_box_saying F30 D_f_sum_of G_Saying SC_Saying D_f_rows_named D_f_moves_of D_f_top DK_f_named_p1 DK_f_named_p2
  have D_f_box_saying : Def l.prog w K mg base CX0 "box_saying" 4 ["program", "j"] (sp_f_box_saying K) := ⟨f30, _, PySem.W.mg_of X G a30, O30, k30, F30.binds (ps := ["program", "j"]) fun _ _ _ _ _ _ us hl => match us, hl with | [_, _], _ => rfl⟩
  have O31 : FnG l.prog w K mg base CX0 5 f31 _ ["program"] (sp_f_sayings_of K) := ok_f_sayings_of F31 D_f_base_sayings D_f_time_sayings D_f_row_sayings D_f_box_saying M_Program_len SC_Program OC_Program m_range m_len
  have D_f_sayings_of : Def l.prog w K mg base CX0 "sayings_of" 5 ["program"] (sp_f_sayings_of K) := ⟨f31, _, PySem.W.mg_of X G a31, O31, k31, F31.binds (ps := ["program"]) fun _ _ _ _ _ _ us hl => match us, hl with | [_], _ => rfl⟩
  have O32 : FnG l.prog w K mg base CX0 1 f32 _ ["self", "other"] (sp_f_Program__eq K) := ok_f_Program__eq F32 n_Program SC_Program OC_Program m_isinstance
  have M_Program_eq : DefO l.prog w K mg base CX0 C_Program "__eq__" 1 ["self", "other"] (sp_f_Program__eq K) := ⟨f32, _, a32, i32, O32, F32.binds (ps := ["self", "other"]) fun _ _ _ _ _ _ us hl => match us, hl with | [_, _], _ => rfl⟩
  have O33 : FnG l.prog w K mg base CX0 7 f33 _ ["boxes", "rows"] (sp_f_law_right K) := ok_f_law_right F33 G_Program SC_Program D_f_law_sayings D_f_sayings_of M_Program_eq OC_Program n_Saying SC_Saying OC_Saying m_range m_tuple m_repr m_isinstance m_list m_all
  have D_f_law_right : Def l.prog w K mg base CX0 "_law_right" 7 ["boxes", "rows"] (sp_f_law_right K) := ⟨f33, _, PySem.W.mg_of X G a33, O33, k33, F33.binds (ps := ["boxes", "rows"]) fun _ _ _ _ _ _ us hl => match us, hl with | [_, _], _ => rfl⟩
  exact ok_f_law F34 D_f_law_some_program D_f_law_box D_f_law_right m_range m_max m_min m_len
end Rs
open PySem PySem.W PyProof.Rows
set_option maxHeartbeats 0 in
theorem PySem.Challenge.cw_runsums_k32_sayings_of_programs_holds : PySem.Challenge.rw_runsums_k32_sayings_of_programs.Holds := by
  w_on; o_law; k_head; (case hw => w_witness2)
  k_fill
  refine Rs.walk_g (l := PySem.Challenge.rw_runsums_k32_sayings_of_programs) (n := 63) (k := 8) (x := "script") (CX := fun _ => L2.CX0) (sp := fun w => Rs.sp_f_law _) rfl (by decide) rfl ⟨⟨rfl, by decide, by decide⟩, rfl, by decide⟩ (fun w h Y => PySem.W.kIn_of Y) ?F (fun _ _ a ns hl hO hS => ⟨a, ns, rfl, Rs.SqF.of hO hS, hl, fun _ => rfl⟩) (fun _ _ _ _ _ h => h)
  case F =>
    intro w mg fa h KX G hmg
    refine' Rs.all_mk KX G hmg ?g_Program ?mk_Program ?kc_Program ?pg_Program ?hd_Program ?po_Program ?sa_Program ?o1_Program ?o2_Program ?o3_Program ?o6_Program ?na_Program_boxes ?na_Program_rows ?g_Saying ?mk_Saying ?kc_Saying ?pg_Saying ?hd_Saying ?po_Saying ?sa_Saying ?o1_Saying ?o2_Saying ?o3_Saying ?o6_Saying ?na_Saying_word ?na_Saying_left ?na_Saying_right ?o4 ?o5 ?a0 ?l0 ?c0 ?k0 ?a1 ?l1 ?c1 ?k1 ?a2 ?l2 ?c2 ?k2 ?a3 ?l3 ?c3 ?k3 ?a4 ?l4 ?c4 ?k4 ?a5 ?l5 ?c5 ?k5 ?a6 ?l6 ?c6 ?k6 ?a7 ?l7 ?c7 ?k7 ?a8 ?l8 ?c8 ?k8 ?a9 ?l9 ?c9 ?k9 ?a10 ?l10 ?c10 ?k10 ?a11 ?i11 ?l11 ?c11 ?k11 ?a12 ?l12 ?c12 ?k12 ?a13 ?l13 ?c13 ?k13 ?a14 ?l14 ?c14 ?k14 ?a15 ?l15 ?c15 ?k15 ?a16 ?l16 ?c16 ?k16 ?a17 ?l17 ?c17 ?k17 ?a18 ?l18 ?dl18 ?dv18 ?c18 ?k18 ?a19 ?i19 ?l19 ?c19 ?k19 ?a20 ?l20 ?c20 ?k20 ?a21 ?l21 ?c21 ?k21 ?a22 ?i22 ?l22 ?c22 ?k22 ?a23 ?l23 ?c23 ?k23 ?a24 ?l24 ?c24 ?k24 ?a25 ?l25 ?c25 ?k25 ?a26 ?l26 ?c26 ?k26 ?a27 ?l27 ?c27 ?k27 ?a28 ?l28 ?c28 ?k28 ?a29 ?l29 ?c29 ?k29 ?a30 ?l30 ?c30 ?k30 ?a31 ?l31 ?c31 ?k31 ?a32 ?i32 ?l32 ?c32 ?k32 ?a33 ?l33 ?c33 ?k33 ?a34 ?l34 ?c34 ?k34 ?z_range ?z_len ?z_int ?z_isinstance ?z_bool ?z_all ?z_zip ?z_enumerate ?z_tuple ?z_str ?z_list ?z_sorted ?z_repr ?z_max ?z_min ?y_SHAPES ?ld_SHAPES ?kl_SHAPES ?sm_SHAPES ?v_SHAPES_0 ?lt_SHAPES_0 ?vt_SHAPES_0 ?v_SHAPES_1 ?lt_SHAPES_1 ?vt_SHAPES_1 ?v_SHAPES_2 ?lt_SHAPES_2 ?vt_SHAPES_2 ?v_SHAPES_3 ?lt_SHAPES_3 ?vt_SHAPES_3 ?v_SHAPES_4 ?lt_SHAPES_4 ?vt_SHAPES_4 ?y_MOST_BOXES ?y_MOST_ROWS ?y_WORDS ?ld_WORDS ?kl_WORDS ?sm_WORDS ?v_WORDS_0 ?v_WORDS_1 ?y_TWO ?lt_TWO ?vt_TWO ?y_ONE ?lt_ONE ?vt_ONE
    (case g_Program => k_is)
    (case mk_Program => k_is)
    (case kc_Program => k_is)
    (case pg_Program => k_is)
    (case hd_Program => k_is)
    (case po_Program => k_is)
    (case sa_Program => k_is)
    (case o1_Program => k_is)
    (case o2_Program => k_is)
    (case o3_Program => k_is)
    (case o6_Program => exact if_pos (beq_self_eq_true _))
    (case na_Program_boxes => k_is)
    (case na_Program_rows => k_is)
    (case g_Saying => k_is)
    (case mk_Saying => k_is)
    (case kc_Saying => k_is)
    (case pg_Saying => k_is)
    (case hd_Saying => k_is)
    (case po_Saying => k_is)
    (case sa_Saying => k_is)
    (case o1_Saying => k_is)
    (case o2_Saying => k_is)
    (case o3_Saying => k_is)
    (case o6_Saying => exact if_pos (beq_self_eq_true _))
    (case na_Saying_word => k_is)
    (case na_Saying_left => k_is)
    (case na_Saying_right => k_is)
    (case o4 => k_is)
    (case o5 => k_is)
    (case a0 => k_is)
    (case l0 => k_is)
    (case c0 => k_is)
    (case k0 => k_is)
    (case a1 => k_is)
    (case l1 => k_is)
    (case c1 => k_is)
    (case k1 => k_is)
    (case a2 => k_is)
    (case l2 => k_is)
    (case c2 => k_is)
    (case k2 => k_is)
    (case a3 => k_is)
    (case l3 => k_is)
    (case c3 => k_is)
    (case k3 => k_is)
    (case a4 => k_is)
    (case l4 => k_is)
    (case c4 => k_is)
    (case k4 => k_is)
    (case a5 => k_is)
    (case l5 => k_is)
    (case c5 => k_is)
    (case k5 => k_is)
    (case a6 => k_is)
    (case l6 => k_is)
    (case c6 => k_is)
    (case k6 => k_is)
    (case a7 => k_is)
    (case l7 => k_is)
    (case c7 => k_is)
    (case k7 => k_is)
    (case a8 => k_is)
    (case l8 => k_is)
    (case c8 => k_is)
    (case k8 => k_is)
    (case a9 => k_is)
    (case l9 => k_is)
    (case c9 => k_is)
    (case k9 => k_is)
    (case a10 => k_is)
    (case l10 => k_is)
    (case c10 => k_is)
    (case k10 => k_is)
    (case a11 => k_is)
    (case i11 => k_is)
    (case l11 => k_is)
    (case c11 => k_is)
    (case k11 => k_is)
    (case a12 => k_is)
    (case l12 => k_is)
    (case c12 => k_is)
    (case k12 => k_is)
    (case a13 => k_is)
    (case l13 => k_is)
    (case c13 => k_is)
    (case k13 => k_is)
    (case a14 => k_is)
    (case l14 => k_is)
    (case c14 => k_is)
    (case k14 => k_is)
    (case a15 => k_is)
    (case l15 => k_is)
    (case c15 => k_is)
    (case k15 => k_is)
    (case a16 => k_is)
    (case l16 => k_is)
    (case c16 => k_is)
    (case k16 => k_is)
    (case a17 => k_is)
    (case l17 => k_is)
    (case c17 => k_is)
    (case k17 => k_is)
    (case a18 => k_is)
    (case l18 => k_is)
    (case dl18 => k_is)
    (case dv18 => exact (.cons ⟨_, rfl⟩ .nil))
    (case c18 => k_is)
    (case k18 => k_is)
    (case a19 => k_is)
    (case i19 => k_is)
    (case l19 => k_is)
    (case c19 => k_is)
    (case k19 => k_is)
    (case a20 => k_is)
    (case l20 => k_is)
    (case c20 => k_is)
    (case k20 => k_is)
    (case a21 => k_is)
    (case l21 => k_is)
    (case c21 => k_is)
    (case k21 => k_is)
    (case a22 => k_is)
    (case i22 => k_is)
    (case l22 => k_is)
    (case c22 => k_is)
    (case k22 => k_is)
    (case a23 => k_is)
    (case l23 => k_is)
    (case c23 => k_is)
    (case k23 => k_is)
    (case a24 => k_is)
    (case l24 => k_is)
    (case c24 => k_is)
    (case k24 => k_is)
    (case a25 => k_is)
    (case l25 => k_is)
    (case c25 => k_is)
    (case k25 => k_is)
    (case a26 => k_is)
    (case l26 => k_is)
    (case c26 => k_is)
    (case k26 => k_is)
    (case a27 => k_is)
    (case l27 => k_is)
    (case c27 => k_is)
    (case k27 => k_is)
    (case a28 => k_is)
    (case l28 => k_is)
    (case c28 => k_is)
    (case k28 => k_is)
    (case a29 => k_is)
    (case l29 => k_is)
    (case c29 => k_is)
    (case k29 => k_is)
    (case a30 => k_is)
    (case l30 => k_is)
    (case c30 => k_is)
    (case k30 => k_is)
    (case a31 => k_is)
    (case l31 => k_is)
    (case c31 => k_is)
    (case k31 => k_is)
    (case a32 => k_is)
    (case i32 => k_is)
    (case l32 => k_is)
    (case c32 => k_is)
    (case k32 => k_is)
    (case a33 => k_is)
    (case l33 => k_is)
    (case c33 => k_is)
    (case k33 => k_is)
    (case a34 => k_is)
    (case l34 => k_is)
    (case c34 => k_is)
    (case k34 => k_is)
    (case z_range => k_is)
    (case z_len => k_is)
    (case z_int => k_is)
    (case z_isinstance => k_is)
    (case z_bool => k_is)
    (case z_all => k_is)
    (case z_zip => k_is)
    (case z_enumerate => k_is)
    (case z_tuple => k_is)
    (case z_str => k_is)
    (case z_list => k_is)
    (case z_sorted => k_is)
    (case z_repr => k_is)
    (case z_max => k_is)
    (case z_min => k_is)
    (case y_SHAPES => k_is)
    (case ld_SHAPES => k_is)
    (case kl_SHAPES => exact ⟨⟨_, _, rfl, rfl⟩, ⟨_, _, rfl, rfl⟩, ⟨_, _, rfl, rfl⟩, ⟨_, _, rfl, rfl⟩, ⟨_, _, rfl, rfl⟩, trivial⟩)
    (case sm_SHAPES => first | rfl | decide)
    (case v_SHAPES_0 => k_is)
    (case lt_SHAPES_0 => k_is)
    (case vt_SHAPES_0 => exact ⟨by decide, (.cons ⟨_, rfl⟩ .nil)⟩)
    (case v_SHAPES_1 => k_is)
    (case lt_SHAPES_1 => k_is)
    (case vt_SHAPES_1 => exact ⟨by decide, (.cons ⟨_, rfl⟩ .nil)⟩)
    (case v_SHAPES_2 => k_is)
    (case lt_SHAPES_2 => k_is)
    (case vt_SHAPES_2 => exact ⟨by decide, (.cons ⟨_, rfl⟩ (.cons ⟨_, rfl⟩ .nil))⟩)
    (case v_SHAPES_3 => k_is)
    (case lt_SHAPES_3 => k_is)
    (case vt_SHAPES_3 => exact ⟨by decide, (.cons ⟨_, rfl⟩ .nil)⟩)
    (case v_SHAPES_4 => k_is)
    (case lt_SHAPES_4 => k_is)
    (case vt_SHAPES_4 => exact ⟨by decide, .nil⟩)
    (case y_MOST_BOXES => k_is)
    (case y_MOST_ROWS => k_is)
    (case y_WORDS => k_is)
    (case ld_WORDS => k_is)
    (case kl_WORDS => exact ⟨⟨_, _, rfl, rfl⟩, ⟨_, _, rfl, rfl⟩, trivial⟩)
    (case sm_WORDS => first | rfl | decide)
    (case v_WORDS_0 => k_is)
    (case v_WORDS_1 => k_is)
    (case y_TWO => k_is)
    (case lt_TWO => k_is)
    (case vt_TWO => exact ⟨by decide, (.cons ⟨_, rfl⟩ (.cons ⟨_, rfl⟩ .nil))⟩)
    (case y_ONE => k_is)
    (case lt_ONE => k_is)
    (case vt_ONE => exact ⟨by decide, (.cons ⟨_, rfl⟩ (.cons ⟨_, rfl⟩ .nil))⟩)
