import PyProof.Rows.All
import Wide.All
import OpenK.AllK
import Wide.FinOn
import HandS.ForMost
import HandS.ForExc
import HandS.Flow
import HandS.Style
import HandS.Wide
import HandS.WideMore
import HandS.WideBits
import HandS.IsInst
import HandS.Rev
import HandS.Walk
import HandS.IntHex
import HandS.SortKw
import KE.GoesEnumKw
import HandS.Zip
import KE.GoesMore
import HandS.More
import HandS.DictComp
import HandS.ListItems
import HandS.TupAny
import HandS.Defaults
import PyProof.P3Eq
import KE.KTupSum
import KE.DataMinMax
import HandS.OwnEq
import HandS.FStr
import HandS.Conv
import HandS.RaiseMore
import PyProof.StrLaws
import HandS.StrMore
import KE.KDictZip
import PyProof.DictUpdate
import PyProof.Rows.TmSorted
import PyProof.Rows.StrMeet
import KE.KDictCopyH
import PySem.Challenge.RW_runsums_k41_whole_no_lesser_base
set_option Elab.async false
set_option linter.all false
set_option maxRecDepth 100000
set_option maxHeartbeats 4000000
set_option exponentiation.threshold 20000
namespace Rs
open PySem L2 PyProof.Rows
abbrev Sm := L2.Same
/-! ### rules side by side -/
section
variable {X : Cx}
theorem op_or {f : Value → Value → Sem Value} {r r' : R2} (h : OpR X f r) (h' : OpR X f r') : OpR X f (fun x y H Q => r x y H Q ∨ r' x y H Q) := by
  intro pins s σ H x y v u Q I rx ry q
  rcases q with q | q
  · exact h pins s σ H x y v u Q I rx ry q
  · exact h' pins s σ H x y v u Q I rx ry q
theorem cr_or {f : Value} {r r' : List V → Hp → VK → Prop} (h : CallR X f r) (h' : CallR X f r') : CallR X f (fun xs H Q => r xs H Q ∨ r' xs H Q) := by
  intro pins s σ H xs us Q I rx q
  rcases q with q | q
  · exact h pins s σ H xs us Q I rx q
  · exact h' pins s σ H xs us Q I rx q
def gAdd (K : PySem.W.Frag) : R2 := fun x y H Q => rI0 (fun i j => .int (i + j)) x y H Q ∨ ((∃ i j, x = .str i ∧ y = .str j ∧ i.length + j.length ≤ sizeLine ∧ Q (.str (i ++ j)) H) ∨ (rCat x y H Q ∨ rCatA K x y H Q))
theorem op_gAdd {K : PySem.W.Frag} (hK : X.K = K) : OpR X (binaryOp .Add) (gAdd K) := by subst hK; exact op_or op_add (op_or op_add_str (op_or op_cat op_catA))
def CM (i j : Int) : Prop := CMul i j ∨ CMulX i j
def gMul : R2 := fun x y H Q => rI CMul (fun i j => .int (i * j)) x y H Q ∨ (rI CMulX (fun i j => .int (i * j)) x y H Q ∨ rRep x y H Q)
theorem op_gMul : OpR X (binaryOp .Mult) gMul := op_or op_mul (op_or op_mulX op_rep)
def gDiv : R2 := fun x y H Q => rI CDivW (fun i j => .int (i / j)) x y H Q
theorem op_gDiv : OpR X (binaryOp .FloorDiv) gDiv := op_fdivW
def gMod : R2 := rI (fun _ j => 0 < j) fun i j => .int (i % j)
theorem op_gMod : OpR X (binaryOp .Mod) gMod := op_mod
def gShl : R2 := rI CShl fun i j => .int (i * 2 ^ j.toNat)
theorem op_gShl : OpR X (binaryOp .LShift) gShl := op_shlW
def gPow : R2 := rI CPow fun i j => .int (i ^ j.toNat)
theorem op_gPow : OpR X (binaryOp .Pow) gPow := op_pow
def gShr : R2 := rI (fun _ j => 0 ≤ j) fun i j => .int (i / 2 ^ j.toNat)
def gAnd : R2 := rI0 fun i j => .int (Builtin.bitAnd i j)
theorem op_gAnd : OpR X (binaryOp .BitAnd) gAnd := op_and
def gLt : R2 := rI0 fun i j => .bl (decide (i < j))
theorem op_gLt : OpR X (compareOp .Lt) gLt := op_lt
def gLe : R2 := rI0 fun i j => .bl (decide (i ≤ j))
theorem op_gLe : OpR X (compareOp .LtE) gLe := op_le
def gGt : R2 := rI0 fun i j => .bl (decide (j < i))
theorem op_gGt : OpR X (compareOp .Gt) gGt := op_gt
def gGe : R2 := rI0 fun i j => .bl (decide (j ≤ i))
theorem op_gGe : OpR X (compareOp .GtE) gGe := op_ge
def gEq (K : PySem.W.Frag) : R2 := fun x y H Q => rEq x y H Q ∨ rEqD K x y H Q
theorem op_gEq {K : PySem.W.Frag} (hK : X.K = K) (hu : X.A.units + 64 < cLine) : OpR X (compareOp .Eq) (gEq K) := by subst hK; exact op_or op_eq (op_eqD hu)
def gNe (K : PySem.W.Frag) : R2 := fun x y H Q => rNe x y H Q ∨ rNeD K x y H Q
theorem op_gNe {K : PySem.W.Frag} (hK : X.K = K) (hu : X.A.units + 64 < cLine) : OpR X (compareOp .NotEq) (gNe K) := by subst hK; exact op_or op_ne (op_neD hu)
def gLen (K : PySem.W.Frag) : List V → Hp → VK → Prop := fun xs H Q => (∃ p ys, xs = [.ref p] ∧ (SqL K H p ys ∨ SqT K H p ys) ∧ Q (.int ys.length) H) ∨ (∃ z, xs = [.str z] ∧ z.length ≤ sizeLine ∧ Q (.int z.length) H)
theorem call_gLen {K : PySem.W.Frag} (hK : X.K = K) : CallR X (.builtin "len") (gLen K) := by subst hK; exact cr_or call_len_seq call_len_str
theorem call_gIsi {K : PySem.W.Frag} (hK : X.K = K) : CallR X (.builtin "isinstance") (rIsi K) := by subst hK; exact call_isi
theorem ix_g {K : PySem.W.Frag} (hK : X.K = K) : IxR X (rIx K) := by subst hK; exact ix_seq
def gSl (K : PySem.W.Frag) : V → Option Int → Option Int → Hp → VK → Prop := fun x lo hi H Q => rSlL K x lo hi H Q ∨ rSlA K x lo hi H Q
theorem sl_gl {K : PySem.W.Frag} (hK : X.K = K) : SlR X (gSl K) := by subst hK; exact SlR.or sl_list sl_tupA
theorem pi_gl {K : PySem.W.Frag} (hK : X.K = K) {tg l : Expr} {tl : TE} (hl : PE X l tl) : PI X tg l (iList K tl) := by subst hK; exact pi_list hl
theorem pi_gt {K : PySem.W.Frag} (hK : X.K = K) {tg l : Expr} {tl : TE} (hl : PE X l tl) : PI X tg l (iTup K tl) := by subst hK; exact pi_tup hl
theorem op_gInSeq {K : PySem.W.Frag} (hK : X.K = K) : OpR X (compareOp .In) (rIn K false) := by subst hK; exact op_in_seq
theorem op_gNotInSeq {K : PySem.W.Frag} (hK : X.K = K) : OpR X (compareOp .NotIn) (rIn K true) := by subst hK; exact op_notIn_seq
def gTup2 (K : PySem.W.Frag) (n : Nat) (t : TGs) : TG := gTup K n t
theorem pg_gt {K : PySem.W.Frag} (hK : X.K = K) {es : List Expr} {k : Nat} {pos : Pos} {t : TGs} {n : Nat} (hc : X.calm = true) (h : PGs X es t) (hl : (assignEach es X.env).length = n := by rfl) (hst : (assignEach es X.env).findIdx? (·.1) = none := by rfl) :
    PG X (.Tuple es k pos) (gTup2 K n t) := by subst hK; exact pg_tup hc h hl hst
theorem pe_gbm {K : PySem.W.Frag} (hK : X.K = K) {o e : Expr} {es : List Expr} {to : TE} {t : TA} {name : Str} {apos cpos : Pos} {T id : String} {r : V → List V → Hp → VK → Prop} (pa : PlainAttrs T) (slot : Slot T name id) (hty : typeOf (.builtin id) = pure (.type "method_descriptor")) (hm : MtR X id r) (ho : PE X o to) (ha : PA X (e :: es) t)
    (hbase : attributeBase o name X.env (eval o X.env) = eval o X.env := by rfl)
    (hfew : ((backTo cpos (starEach (e :: es) X.env)).all (fun x => !x.1) && (backToKw cpos (keywordEach [] X.env)).all (fun x => x.1.isSome)
      && decide ((e :: es).length + ([] : List Keyword).length + (if ([] : List Keyword).isEmpty then 0 else 1) < 30)) = true := by rfl)
    (hline : (apos.endLine == cpos.line) = true := by rfl) (hs : starEach (e :: es) X.env = (false, eval e X.env) :: starEach es X.env := by rfl) (hplain : (backTo cpos (starEach es X.env)).any (·.1) = false := by rfl) :
    PE X (.Call (.Attribute o name apos) (e :: es) [] cpos) (tBM K T r to t) := by subst hK; exact pe_bm pa slot hty hm ho ha hbase hfew hline hs hplain
def gTpl (K : PySem.W.Frag) : List V → Hp → VK → Prop := (fun xs H Q => ∃ p ys, xs = [.ref p] ∧ ((SqL K H p ys ∧ ∀ l, H l = none → Q (.ref l) (upd H l (.tup ys))) ∨ (SqT K H p ys ∧ Q (.ref p) H)))
def gLst (K : PySem.W.Frag) : List V → Hp → VK → Prop := (fun xs H Q => ∃ p ys, xs = [.ref p] ∧ (SqL K H p ys ∨ SqT K H p ys) ∧ ∀ l, H l = none → Q (.ref l) (upd H l (.lst ys)))
theorem call_gTuple {K : PySem.W.Frag} (hK : X.K = K) : CallR X (.type "tuple") (gTpl K) := by subst hK; exact call_tuple_of
def gIAdd : R2 := fun x y H Q => rI0 (fun i j => .int (i + j)) x y H Q ∨ (∃ i j, x = .str i ∧ y = .str j ∧ i.length + j.length ≤ sizeLine ∧ Q (.str (i ++ j)) H)
def gIMul : R2 := fun x y H Q => rI CMul (fun i j => .int (i * j)) x y H Q ∨ rI CMulX (fun i j => .int (i * j)) x y H Q
def gXor : R2 := rI0 fun i j => .int (Builtin.bitXor i j)
theorem ip_gAdd : PIp X .Add gIAdd := op_or iop_add iop_add_str
theorem ip_gShl : PIp X .LShift gShl := iop_shlW
def gIntC : List V → Hp → VK → Prop := fun xs H Q => (∃ i, xs = [.int i] ∧ Q (.int i) H) ∨ ∃ k, xs = [.bl k] ∧ Q (.int (if k then 1 else 0)) H
theorem call_gInt : CallR X (.type "int") gIntC := call_int1
def gMax : List V → Hp → VK → Prop := fun xs H Q => ∃ i j, xs = [.int i, .int j] ∧ Q (.int (if j > i then j else i)) H
theorem call_gMax (hc : X.calm = true) : CallR X (.builtin "max") gMax := call_max2 hc
def gMin : List V → Hp → VK → Prop := fun xs H Q => ∃ i j, xs = [.int i, .int j] ∧ Q (.int (if j < i then j else i)) H
theorem call_gMin (hc : X.calm = true) : CallR X (.builtin "min") gMin := call_min2 hc
end
/-! ### a def's promise where nothing is being shown (no repr under way) -/
structure RoomG (k : Nat) (A : Around) : Prop where
  rm : Room k A
  gd : A.guards = some []
  un : A.units + 16 * k + 6000 < cLine
theorem RoomG.mono {j k : Nat} {A : Around} (r : RoomG k A) (h : j ≤ k) : RoomG j A := ⟨r.rm.mono h, r.gd, by have := r.un; omega⟩
theorem RoomG.units {k : Nat} {A : Around} (r : RoomG k A) : A.units + 64 < cLine := r.rm.units
theorem RoomG.big {k : Nat} {A : Around} (r : RoomG k A) : A.units + 5000 < cLine := by have := r.un; omega
theorem RoomG.down {k : Nat} {A : Around} (r : RoomG (k + 1) A) (v : Env) : RoomG k (A.deeper v) := ⟨r.rm.deeper v, r.gd, by have := r.un; show A.units + 3 + 16 * k + 6000 < _; omega⟩
theorem RoomG.in1 {k : Nat} {A : Around} (r : RoomG (k + 1) A) : RoomG k A.in1 := ⟨r.rm.in1, r.gd, by have := r.un; show A.units + 1 + 16 * k + 6000 < _; omega⟩
structure FnG (P : Program) (w : World) (K : PySem.W.Frag) (mg : Str → Option Value) (base : Heap) (CX : CXT) (k : Nat) (f : Addr) (fd : FuncData) (ps : List Str) (sp : Sp) : Prop where
  ln : ∀ vs H Q E, sp vs H Q E → vs.length = ps.length
  go : ∀ (A : Around) (ou : List Env) (z : Shared) (H : Hp) (ar : Args) (us : List Value) (vs : List V) (Q : VK) (E : XK), RoomG k A → Env0 P w K mg base A ou z H → BindsTo z fd ar (ps.zip us) → Vals vs us → sp vs H Q E →
    codeAny (model P w) A (.call (.ref f) ar) (CR CX ou P w H z Q E) z
/-- a call's end is what the caller wants -/
theorem aft {X : Cx} {CX : CXT} {pins : List (Addr × Obj)} {σ : L2.St} {H : Hp} {s : Shared} {Q : VK} {E : XK} (hx : Passes CX X E) (I : Inv X pins σ H s) {r : Result} {z : Shared} (h : CR CX X.stack X.prog X.w H s Q E r z) :
    callEnd (EP X pins σ Q) X.xe r z := by
  cases r with
  | error e => exact hx pins σ H s e z I h
  | ok fl => cases fl with
    | ret u => exact I.after h
    | next => exact h.elim
    | brk => exact h.elim
    | cont => exact h.elim
theorem run_g {X : Cx} {CX : CXT} {k : Nat} {f : Addr} {fd : FuncData} {ps : List Str} {sp : Sp} {E : XK} {pins : List (Addr × Obj)} {σ : L2.St} {H : Hp} {s : Shared} {Q : VK} {us : List Value} {vs : List V}
    (F : FnG X.prog X.w X.K X.mg X.base CX k f fd ps sp) (hr : RoomG k X.A) (hb : Binds X.K fd ps []) (hx : Passes CX X E) (I : Inv X pins σ H s) (r : Vals vs us) (h : sp (vs ++ []) H Q E) : wpAny (model X.prog X.w) X.A (call (.ref f) us) (EP X pins σ Q) X.xe s := by
  have q := r.append (show Vals [] [] from .nil)
  exact wpAny_call (codeAny_mono (F.go X.A X.stack s H ⟨us, []⟩ (us ++ []) (vs ++ []) Q E hr I.env0 (hb s us I.kIn (q.length.symm.trans (F.ln _ _ _ _ h))) q h) fun _ _ y => aft hx I y)
theorem run_gk {X : Cx} {CX : CXT} {k : Nat} {f : Addr} {fd : FuncData} {ps ks : List Str} {sp : Sp} {g : List Value → List Value → List Value} {gV : List V → List V → List V} {E : XK} {pins : List (Addr × Obj)} {σ : L2.St} {H : Hp} {s : Shared} {Q : VK} {us ws : List Value} {vs zs : List V}
    (F : FnG X.prog X.w X.K X.mg X.base CX k f fd ps sp) (hr : RoomG k X.A) (hb : KBinds X.K fd ps ks g gV) (hx : Passes CX X E) (I : Inv X pins σ H s) (r : Vals vs us) (rz : Vals zs ws) (h : sp (gV vs zs) H Q E) :
    wpAny (model X.prog X.w) X.A (call (.ref f) us (ks.zip ws)) (EP X pins σ Q) X.xe s := by
  have q := hb.rel r rz
  exact wpAny_call (codeAny_mono (F.go X.A X.stack s H ⟨us, ks.zip ws⟩ (g us ws) (gV vs zs) Q E hr I.env0 (hb.to s us ws I.kIn (q.length.symm.trans (F.ln _ _ _ _ h))) q h) fun _ _ y => aft hx I y)
theorem fn_g {CX : CXT} {P : Program} {w : World} {K : PySem.W.Frag} {mg : Str → Option Value} {base : Heap} {k : Nat} {f : Addr} {nm qu : Str} {pr : Arguments} {bd : List Stmt} {sc : Scope} {dV kV dc pm cd ct oc : Value} {an od : Option Addr} {sl : Array (Option Value)} {N ps : List Str} {sp : Sp}
    (lk : K.lookup f = some ⟨oc, od, .func (PySem.W.fnOf nm qu pr bd sc dV kV dc pm an cd ct), sl⟩) (hc : PySem.W.codeIn K cd qu = true) (S : FnScope N ps sc) (ln : ∀ vs H Q E, sp vs H Q E → vs.length = ps.length)
    (hb : ∀ (A : Around) (ou : List Env) (z : Shared) (H : Hp) (vs : List V) (Q : VK) (E : XK), RoomG k (A.deeper (envOfC qu sc z.heap.objs.size f cd)) → sp vs H Q E → ∃ t, PSs (cxOf CX P w K mg base N qu sc f cd A ou z H E) bd t ∧ t { nx := fun _ H' => Q .non H', rt := Q } (start N vs) H) :
    FnG P w K mg base CX (k + 1) f (PySem.W.fnOf nm qu pr bd sc dV kV dc pm an cd ct) ps sp := by
  refine ⟨ln, fun A ou z H ar us vs Q E hr e0 bt r hs => ?_⟩
  have hl := ln _ _ _ _ hs
  have old : ∀ b o, base.get? b = some o → z.heap.get? b = some o := fun b o e => (e0.bs b o e).1
  have kz := e0.mod.kin.keeps old
  have lim := e0.mod.nolimit.keeps old
  have hk : ∀ y ∈ ps.zip us, sc.names.lookup y.1 = some .local ∨ (sc.names.lookup y.1 = some .cell ∧ ((cellsFrom (z.heap.objs.size + 1) sc.names []).lookup y.1).isSome = true) := by
    intro y hy
    rcases S.par y.1 (List.of_mem_zip hy).1 with q | q
    · exact .inl q
    · exact .inr ⟨q, PySem.W.cellsFrom_some _ _ _ (.inl q)⟩
  refine codeAny_call_function hr.rm.depth (kz _ _ lk) rfl S.co S.gen rfl (PySem.W.codeRec_of kz hc) (bt _ _ _ _ (wpAny_newFunctionEnv_cells S.kind hk fun v hv z1 x => ?_))
  subst hv
  refine ⟨lim.keeps x.toInCall.keep, codeAny_func ?_⟩
  obtain ⟨t, ht, hq⟩ := hb A ou z H vs Q E (hr.down _) hs
  refine wpAny_mono (ht.run [] z1 (start N vs) H _ (inv_start S hr.rm.hd e0 hl r x) hq) (fun fl z2 y => ?_) fun _ _ y => y
  cases fl with
  | ret u =>
    obtain ⟨v, σ', H', J, rv, q⟩ := y
    exact ⟨v, H', J.os, J.bare, J.base, J.hok, rv, q⟩
  | next =>
    obtain ⟨σ', H', J, q⟩ := y
    exact ⟨V.non, H', J.os, J.bare, J.base, J.hok, rfl, q⟩
  | brk => exact y.elim fun _ y => y.elim fun _ y => y.2.elim
  | cont => exact y.elim fun _ y => y.elim fun _ y => y.2.elim
theorem okG {CX : CXT} {P : Program} {w : World} {K : PySem.W.Frag} {mg : Str → Option Value} {base : Heap} {x qu : Str} {st : Stmt} {f : Addr} {fd : FuncData} {N ps : List Str} {k : Nat} {sp : Sp} (F : Fun K x qu st f fd) (S : FnScope N ps (defScope st)) (ln : ∀ vs H Q E, sp vs H Q E → vs.length = ps.length)
    (hb : ∀ (cd : Value) (A : Around) (ou : List Env) (z : Shared) (H : Hp) (vs : List V) (Q : VK) (E : XK), RoomG k (A.deeper (envOfC qu (defScope st) z.heap.objs.size f cd)) → sp vs H Q E →
      ∃ t, PSs (cxOf CX P w K mg base N qu (defScope st) f cd A ou z H E).nox (defBody st) t ∧ t { nx := fun _ H' => Q .non H', rt := Q } (start N vs) H) : FnG P w K mg base CX (k + 1) f fd ps sp := by
  obtain ⟨oc, od, kV, dc, pm, an, cd, ct, sl, rfl, lk, hc⟩ := F.ex
  refine fn_g lk hc S ln fun A ou z H vs Q E hr hs => ?_
  obtain ⟨t, h, q⟩ := hb cd A ou z H vs Q E hr hs
  exact ⟨t, h.nox, q⟩
/-- the same for a def with defaults -/
theorem okD {CX : CXT} {P : Program} {w : World} {K : PySem.W.Frag} {mg : Str → Option Value} {base : Heap} {x qu : Str} {st : Stmt} {dvs : List V} {f : Addr} {fd : FuncData} {N ps : List Str} {k : Nat} {sp : Sp} (F : FunD K x qu (defArgs st) (defBody st) (defScope st) dvs [] f fd) (S : FnScope N ps (defScope st)) (ln : ∀ vs H Q E, sp vs H Q E → vs.length = ps.length)
    (hb : ∀ (cd : Value) (A : Around) (ou : List Env) (z : Shared) (H : Hp) (vs : List V) (Q : VK) (E : XK), RoomG k (A.deeper (envOfC qu (defScope st) z.heap.objs.size f cd)) → sp vs H Q E →
      ∃ t, PSs (cxOf CX P w K mg base N qu (defScope st) f cd A ou z H E).nox (defBody st) t ∧ t { nx := fun _ H' => Q .non H', rt := Q } (start N vs) H) : FnG P w K mg base CX (k + 1) f fd ps sp := by
  obtain ⟨oc, od, dV, kV, dc, pm, an, cd, ct, sl, rfl, lk, hc, _, _⟩ := F.ex
  refine fn_g lk hc S ln fun A ou z H vs Q E hr hs => ?_
  obtain ⟨t, h, q⟩ := hb cd A ou z H vs Q E hr hs
  exact ⟨t, h.nox, q⟩
theorem fund_mk {K : PySem.W.Frag} {x qual : Str} {st : Stmt} {dvs : List V} {f T : Addr} {oc tc : Value} {od an td : Option Addr} {osl ts : Array (Option Value)} {kV doc pm cdv ct : Value} {ti : Array Value} {tn : Nat} (l : K.lookup f = some ⟨oc, od, .func (PySem.W.fnOf x qual (defArgs st) (defBody st) (defScope st) (.ref T) kV doc pm an cdv ct), osl⟩)
    (c : PySem.W.codeIn K cdv qual = true) (k : PySem.W.keepIn K (.ref f) = true) (lt : K.lookup T = some ⟨tc, td, .seq ti tn, ts⟩) (hv : Vals dvs ti.toList) (hd : dvs ≠ []) :
    FunD K x qual (defArgs st) (defBody st) (defScope st) dvs [] f (PySem.W.fnOf x qual (defArgs st) (defBody st) (defScope st) (.ref T) kV doc pm an cdv ct) :=
  ⟨⟨oc, od, .ref T, kV, doc, pm, an, cdv, ct, osl, rfl, l, c, .inr ⟨hd, T, _, ti.toList, tn, rfl, lt, by rw [Array.toArray_toList], hv⟩, .inl rfl⟩, k⟩
theorem kb_dfl {K : PySem.W.Frag} {x qual : Str} {params : Arguments} {body : List Stmt} {scope : Scope} {dvs : List V} {f : Addr} {fd : FuncData} {ps ks : List Str} (F : FunD K x qual params body scope dvs [] f fd) (hd : dvs ≠ []) (g : {α : Type} → List α → List α → List α → List α)
    (hrel : ∀ {vs zs : List V} {us ws its : List Value}, Vals vs us → Vals zs ws → Vals dvs its → Vals (g dvs vs zs) (g its us ws))
    (h : ∀ (T : Addr) (kV doc pm : Value) (an : Option Addr) (cdv ct : Value) (us ws its : List Value), its.length = dvs.length → (g its us ws).length = ps.length →
      ∃ k, bindArgs (PySem.W.fnOf x qual params body scope (.ref T) kV doc pm an cdv ct) ⟨us, ks.zip ws⟩ = seqItems? (.ref T) >>= k ∧ k (some its.toArray) = pure (ps.zip (g its us ws))) : ∃ g', KBinds K fd ps ks g' (fun vs zs => g dvs vs zs) := by
  obtain ⟨oc, od, dV, kV, doc, pm, an, cdv, ct, osl, rfl, lk, hcd, hD, hK⟩ := F.ex
  rcases hD with ⟨e, _⟩ | ⟨_, T, o, its, m, rfl, lT, oT, rT⟩
  · exact absurd e hd
  · refine ⟨fun us ws => g its us ws, fun s us ws X hl => ?_, fun r1 r2 => hrel r1 r2 rT⟩
    obtain ⟨k, e1, e2⟩ := h T kV doc pm an cdv ct us ws its rT.length.symm hl
    refine BindsTo.of_looks fun M => ?_
    rw [e1]
    exact looks_items X lT oT (.of_pure e2)
/-! ### a def by its name -/
structure Def (P : Program) (w : World) (K : PySem.W.Frag) (mg : Str → Option Value) (base : Heap) (CX : CXT) (name : Str) (k : Nat) (ps : List Str) (sp : Sp) : Prop where
  ex : ∃ f fd, mg name = some (.ref f) ∧ FnG P w K mg base CX k f fd ps sp ∧ PySem.W.keepIn K (.ref f) = true ∧ Binds K fd ps []
section
variable {X : Cx} {CX : CXT} {k : Nat} {ps : List Str} {sp : Sp} {x : Str} {p pos : Pos} {e : Expr} {es : List Expr} {t : TA} {E : XK}
theorem pe_f (G : Def X.prog X.w X.K X.mg X.base CX x k ps sp) (hr : RoomG k X.A) (hg : Gl X x) (hx : Passes CX X E) (ha : PA X (e :: es) t) (hdb : (x == ("__debug__" : Str)) = false := by decide)
    (he : starEach (e :: es) X.env = (false, eval e X.env) :: starEach es X.env := by rfl) (hpl : (backTo pos (starEach es X.env)).any (·.1) = false := by rfl) :
    PE X (.Call (.Name x p) (e :: es) [] pos) (tCall sp [] E t) := by
  obtain ⟨f, fd, m, F, kp, b⟩ := G.ex
  refine ⟨fun pins s σ H Q I h => wpAny_Call_Name_kw (ld_glob I hg m ?_ hdb)⟩
  exact PySem.W.callWith_K (h₀ := X.base) I.ok.mod.kin kp (thn (ha.run pos pins s σ H _ I h) fun us z ⟨vs, G, J, r, q⟩ => ⟨J.kIn, run_g F hr b hx J r q⟩) he hpl
theorem pe_f0 (G : Def X.prog X.w X.K X.mg X.base CX x k ps sp) (hr : RoomG k X.A) (hg : Gl X x) (hx : Passes CX X E) (hdb : (x == ("__debug__" : Str)) = false := by decide) :
    PE X (.Call (.Name x p) [] [] pos) (tCall sp [] E tNil) := by
  obtain ⟨f, fd, m, F, kp, b⟩ := G.ex
  refine ⟨fun pins s σ H Q I h => wpAny_Call_Name_kw (ld_glob I hg m ?_ hdb)⟩
  exact PySem.W.callWith_K0 I.kIn kp (run_g (us := []) F hr b hx I .nil h)
end
/-- a def called by its arguments' names -/
structure DefK (P : Program) (w : World) (K : PySem.W.Frag) (mg : Str → Option Value) (base : Heap) (CX : CXT) (name : Str) (k : Nat) (ps ks : List Str) (gV : List V → List V → List V) (sp : Sp) : Prop where
  ex : ∃ f fd g, mg name = some (.ref f) ∧ FnG P w K mg base CX k f fd ps sp ∧ PySem.W.keepIn K (.ref f) = true ∧ KBinds K fd ps ks g gV
section
variable {X : Cx} {CX : CXT} {k : Nat} {ps ks : List Str} {gV : List V → List V → List V} {sp : Sp} {x : Str} {p pos : Pos} {e : Expr} {es : List Expr} {kws : List Keyword} {t tk : TA} {E : XK}
theorem pe_fK (G : DefK X.prog X.w X.K X.mg X.base CX x k ps ks gV sp) (hr : RoomG k X.A) (hg : Gl X x) (hx : Passes CX X E) (ha : PA X (e :: es) t) (hkw : PK X kws tk)
    (hall : (backToKw pos (keywordEach kws X.env)).all (·.1.isSome) = true := by rfl) (hks : (backToKw pos (keywordEach kws X.env)).filterMap (·.1) = ks := by rfl) (hdb : (x == ("__debug__" : Str)) = false := by decide)
    (he : starEach (e :: es) X.env = (false, eval e X.env) :: starEach es X.env := by rfl)
    (hpl : ((backTo pos (starEach (e :: es) X.env)).any (·.1) || (backToKw pos (keywordEach kws X.env)).any (·.1.isNone)) = false := by rfl) :
    PE X (.Call (.Name x p) (e :: es) kws pos) (tCallK sp gV E t tk) := by
  obtain ⟨f, fd, g, m, F, kp, b⟩ := G.ex
  refine ⟨fun pins s σ H Q I h => wpAny_Call_Name_kw (ld_glob I hg m ?_ hdb)⟩
  refine PySem.W.callWith_KW (h₀ := X.base) I.ok.mod.kin kp hall (thn (ha.run pos pins s σ H _ I h) fun us z ⟨vs, G, J, r, q⟩ => ?_) hpl he
  refine thn (hkw.run pos pins z σ G _ J q) fun ws z2 ⟨zs, G2, J2, rz, q2⟩ => ⟨J2.kIn, ?_⟩
  rw [hks]
  exact run_gk F hr b hx J2 r rz q2
end
theorem FnG.no {P : Program} {w : World} {K : PySem.W.Frag} {mg : Str → Option Value} {base : Heap} {CX : CXT} {k : Nat} {f : Addr} {fd : FuncData} {ps : List Str} {sp : Sp} (h : ∀ vs H Q E, sp vs H Q E → False) : FnG P w K mg base CX k f fd ps sp :=
  ⟨fun vs H Q E y => (h vs H Q E y).elim, fun _ _ _ H _ _ vs Q E _ _ _ _ y => (h vs H Q E y).elim⟩
theorem FnG.mono {P : Program} {w : World} {K : PySem.W.Frag} {mg : Str → Option Value} {base : Heap} {CX : CXT} {j k : Nat} {f : Addr} {fd : FuncData} {ps : List Str} {sp : Sp} (F : FnG P w K mg base CX j f fd ps sp) (h : j ≤ k) : FnG P w K mg base CX k f fd ps sp :=
  ⟨F.ln, fun A ou z H ar us vs Q E hr => F.go A ou z H ar us vs Q E (hr.mono h)⟩
/-- what stands in a class of the text -/
def clsB : Stmt → List Stmt := fun
  | .ClassDef (body := bd) .. => bd
  | _ => []
/-! ### an own class: made by its name, fields read -/
structure ClsF (K : PySem.W.Frag) (C : Addr) (fs : List Str) : Prop where
  cl : Cls K C
  na : ∀ f ∈ fs, NoAttr K C f
/-- the class by its name -/
structure ClsN (K : PySem.W.Frag) (x : Str) (C : Addr) (fs : List Str) : Prop extends ClsF K C fs where
  nm : PySem.W.nsIn K mainGlobals x = some (some (.ref C))
theorem ClsN.uniq {K : PySem.W.Frag} {x : Str} {C D : Addr} {fs gs : List Str} (a : ClsN K x C fs) (b : ClsN K x D gs) : C = D := by
  have e := a.nm.symm.trans b.nm
  cases e
  rfl
theorem mk_guards {A : Around} {C : Addr} {us : List Value} {kw : List (Str × Value)} (g : A.guards = some []) : (A.under (.builtin "type.__call__" ⟨.ref C :: us, kw⟩)).guards = some [] := by
  first | exact g | (simp [Around.under, Code.guards, Code.isGuard, guardIds, pushGuards, g])
theorem RoomG.mk2 {k : Nat} {A : Around} (r : RoomG (k + 1) A) (C : Addr) (us : List Value) : RoomG k (A.under (.builtin "type.__call__" ⟨.ref C :: us, []⟩)) := ⟨r.rm.make C us [], mk_guards r.gd, by have := r.un; rw [make_units]; omega⟩
structure DefM (P : Program) (w : World) (K : PySem.W.Frag) (mg : Str → Option Value) (base : Heap) (CX : CXT) (name : Str) (k : Nat) (ps : List Str) (sp : Sp) (C : Addr) : Prop where
  ex : ∃ f fd, mg name = some (.ref C) ∧ Mk K C f ∧ FnG P w K mg base CX k f fd ps sp ∧ Binds K fd ps []
theorem run_mkG {X : Cx} {CX : CXT} {k : Nat} {f C : Addr} {fd : FuncData} {ps : List Str} {sp : Sp} {E : XK} {pins : List (Addr × Obj)} {σ : L2.St} {H : Hp} {s : Shared} {Q : VK} {us : List Value} {vs : List V} (M : Mk X.K C f)
    (F : FnG X.prog X.w X.K X.mg X.base CX k f fd ps sp) (hr : RoomG (k + 1) X.A) (hb : Binds X.K fd ps []) (hx : Passes CX X E) (I : Inv X pins σ H s) (r : Vals vs us)
    (h : ∀ x dx, H x = none → H dx = none → dx ≠ x → sp (.ref x :: (vs ++ [])) (upd (upd H dx (.own x)) x (.ins C dx [])) (fun v H2 => v = .non ∧ Q (.ref x) H2) E) : wpAny (model X.prog X.w) X.A (call (.ref C) us) (EP X pins σ Q) X.xe s := by
  have hq := h (s.heap.objs.size + 1) s.heap.objs.size (I.hok.fresh (Nat.le_succ _)) (I.hok.fresh (Nat.le_refl _)) (Nat.ne_of_lt (Nat.lt_succ_self _))
  have J := Inv.made (C := C) I
  have q : Vals (V.ref (s.heap.objs.size + 1) :: (vs ++ [])) (Value.ref (s.heap.objs.size + 1) :: (us ++ [])) := .cons rfl (r.append .nil)
  have hl : (Value.ref (s.heap.objs.size + 1) :: us ++ []).length = ps.length := q.length.symm.trans (F.ln _ _ _ _ hq)
  have run := F.go _ X.stack _ _ ⟨Value.ref (s.heap.objs.size + 1) :: us, []⟩ (Value.ref (s.heap.objs.size + 1) :: (us ++ [])) _ _ E (hr.mk2 C us) (J.env0.make C us []) (by rw [← List.cons_append]; exact hb _ (Value.ref (s.heap.objs.size + 1) :: us) J.kIn hl) q hq
  refine wpAny_call (make_map (f := f) I.kIn M.makes M.init (beq_iff_eq.mp M.fn) (codeAny_mono run fun r z y => ?_))
  match r, y with
  | .error e, y => exact hx pins σ _ _ e z J y
  | .ok .next, y => exact y.elim
  | .ok .brk, y => exact y.elim
  | .ok .cont, y => exact y.elim
  | .ok (.ret u), y =>
    obtain ⟨v, G, J2, rv, ev, q3⟩ := J.after y
    subst ev
    exact ⟨rv, ⟨V.ref (s.heap.objs.size + 1), G, J2, rfl, q3⟩⟩
theorem pe_mk {X : Cx} {CX : CXT} {k : Nat} {ps : List Str} {sp : Sp} {x : Str} {C : Addr} {p pos : Pos} {e : Expr} {es : List Expr} {t : TA} {E : XK} (G : DefM X.prog X.w X.K X.mg X.base CX x k ps sp C) (hr : RoomG (k + 1) X.A) (hg : Gl X x) (hx : Passes CX X E) (ha : PA X (e :: es) t)
    (hdb : (x == ("__debug__" : Str)) = false := by decide) (he : starEach (e :: es) X.env = (false, eval e X.env) :: starEach es X.env := by rfl) (hpl : (backTo pos (starEach es X.env)).any (·.1) = false := by rfl) :
    PE X (.Call (.Name x p) (e :: es) [] pos) (tMake C sp [] E t) := by
  obtain ⟨f, fd, m, M, F, b⟩ := G.ex
  refine ⟨fun pins s σ H Q I h => wpAny_Call_Name_kw (ld_glob I hg m ?_ hdb)⟩
  exact PySem.W.callWith_K (h₀ := X.base) I.ok.mod.kin M.kp (thn (ha.run pos pins s σ H _ I h) fun us z ⟨vs, G, J, r, q⟩ => ⟨J.kIn, run_mkG M F hr b hx J r q⟩) he hpl
/-! ### own methods -/
structure DefO (P : Program) (w : World) (K : PySem.W.Frag) (mg : Str → Option Value) (base : Heap) (CX : CXT) (C : Addr) (nm : Str) (k : Nat) (ps : List Str) (sp : Sp) : Prop where
  ex : ∃ f fd, PySem.W.findIn K (.ref C) nm = some (some (.ref f)) ∧ PySem.W.isFn K (.ref f) = true ∧ FnG P w K mg base CX k f fd ps sp ∧ Binds K fd ps []
theorem run_gA {X : Cx} {CX : CXT} {k : Nat} {f : Addr} {fd : FuncData} {ps : List Str} {sp : Sp} {E : XK} {pins : List (Addr × Obj)} {σ : L2.St} {H : Hp} {s : Shared} {Q : VK} {us : List Value} {vs : List V} {A : Around}
    (F : FnG X.prog X.w X.K X.mg X.base CX k f fd ps sp) (hr : RoomG k A) (fr : A.frames = X.A.frames) (hb : Binds X.K fd ps []) (hx : Passes CX X E) (I : Inv X pins σ H s) (r : Vals vs us) (h : sp vs H Q E) : wpAny (model X.prog X.w) A (call (.ref f) us) (EP X pins σ Q) X.xe s := by
  have e0 : Env0 X.prog X.w X.K X.mg X.base A X.stack s H := by
    have e := I.env0
    exact ⟨by rw [fr]; exact e.frames, e.mod, e.bs, e.bsz, e.funs, e.frf, e.hok, e.bare⟩
  have q := r.append (show Vals [] [] from .nil)
  have h : sp (vs ++ []) H Q E := by rw [List.append_nil]; exact h
  exact wpAny_call (codeAny_mono (F.go A X.stack s H ⟨us, []⟩ (us ++ []) (vs ++ []) Q E hr e0 (hb s us I.kIn (q.length.symm.trans (F.ln _ _ _ _ h))) q h) fun _ _ y => aft hx I y)
/-! x != y: the contrary of the own == -/
/-! isinstance of a class of one's own -/
structure ClsO (K : PySem.W.Frag) (C : Addr) : Prop where
  ne : PySem.W.findIn K (.ref C) "__ne__" = some (some (.builtin "object.__ne__"))
  mo : PySem.W.mroIn K C (.type "object") = some true
  kc : PySem.W.findIn K (.ref C) "__class__" = some (some (.builtin "object.__class__"))
  kg : PySem.W.specialIn K (.builtin "object.__class__") "__get__" = some (some (.builtin "getset_descriptor.__get__"))
  kt : PySem.W.takesIn K (.builtin "object.__class__") = some true
  ki : PySem.W.kitOne K (.ref C) (.ref C) = some true
/-- a dict of the module has these texts as keys -/
def KDs (K : PySem.W.Frag) (w : World) (a : Addr) (ks : List Str) : Prop := (a == sysModules) = false ∧ ∀ z ∈ ks, ∃ v, KDct K w a z v
/-- a dict of the module: texts, each with a tuple of texts -/
def KDt (K : PySem.W.Frag) (w : World) (a : Addr) (l : List (Str × List Str)) : Prop := (a == sysModules) = false ∧ ∀ z ∈ l, ∃ t, KDct K w a z.1 (.ref t) ∧ ∀ H, SqT K H t (z.2.map V.str)
def tKGet (K : PySem.W.Frag) (w : World) (td ty : TE) : TE := fun σ H Q => td σ H fun x H1 => ty σ H1 fun y H2 => ∃ a z v, x = .ref a ∧ y = .str z ∧ (a == sysModules) = false ∧ KDct K w a z v ∧ Q v H2
theorem pe_kget {X : Cx} {o i : Expr} {pos : Pos} {td ty : TE} (ho : PE X o td) (hi : PE X i ty) (hs : NoSl i) : PE X (.Subscript o i pos) (tKGet X.K X.w td ty) := by
  refine ⟨fun pins s σ H Q I h => ?_⟩
  refine subD_of PySem.F.slot_dict_getitem.lookup hs (thn (ho.run pins s σ H _ I h) fun u s1 ⟨x, H1, I1, rx, q1⟩ => thn (hi.run pins s1 σ H1 _ I1 q1) fun iv s2 ⟨y, H2, I2, ry, a, z, v, ex, ey, low, ⟨es, n, u0, hl, hk, e, ru⟩, q2⟩ => ?_)
  subst ex
  subst ey
  obtain rfl : u = Value.ref a := rx
  obtain ⟨t, rfl⟩ := (show ∃ t, iv = Value.str z t from ry)
  refine ⟨⟨_, I2.kIn _ _ hl, rfl⟩, wpAny_getItem_of (strKind_is X.prog X.w z t) (PySem.W.mapOf_K (prog := X.prog) (w := X.w) I2.kIn hl hk) ((PySem.W.find_K hl e)) ⟨v, H2, I2.tok _, ru, q2⟩⟩
def tNiK (K : PySem.W.Frag) (w : World) (ty td : TE) : TE := fun σ H Q => ty σ H fun y H1 => td σ H1 fun x H2 => ∃ a z v, x = .ref a ∧ y = .str z ∧ (a == sysModules) = false ∧ KDct K w a z v ∧ Q (.bl false) H2
theorem pc_niK {X : Cx} {i o : Expr} {ty td : TE} (hi : PE X i ty) (ho : PE X o td) : PC X .NotIn i o (tNiK X.K X.w ty td) := by
  refine ⟨fun pins s σ H Q I h => ?_⟩
  refine thn (hi.run pins s σ H _ I h) fun iv s1 ⟨y, H1, I1, ry, q1⟩ => thn (ho.run pins s1 σ H1 _ I1 q1) fun u s2 ⟨x, H2, I2, rx, a, z, v, ex, ey, low, ⟨es, n, u0, hl, hk, e, ru⟩, q2⟩ => ?_
  subst ex
  subst ey
  obtain rfl : u = Value.ref a := rx
  obtain ⟨t, rfl⟩ := (show ∃ t, iv = Value.str z t from ry)
  have hm := PySem.W.mapOf_K (prog := X.prog) (w := X.w) I2.kIn hl hk
  refine wpAny_notIn_of (strKind_is X.prog X.w z t) low hm ?_
  rw [PySem.W.find_K hl e]
  exact ⟨.bl false, H2, I2.tok _, rfl, q2⟩
/-! ### the top: the law is called where nothing is being shown -/
theorem top_core {P : Program} {w : World} {K : PySem.W.Frag} {mg mb : Str → Option Value} {CX : CXT} {k : Nat} {fa a : Addr} {fd : FuncData} {x : Str} {sp : Sp} {z : Shared} {vs : List Value} {ns : List Int} (kz : K.In z.heap) (g1 : z.heap.Ns mainGlobals mg) (g2 : z.heap.Ns builtinsNs mb)
    (g3 : ∀ y : Str, y ≠ "__name__" → mb y = bootBuiltins y) (lim : z.heap.NoLimit) (gn : z.gens = #[]) (ha : z.heap.get? a = some { cls := .type "list", data := .seq vs.toArray }) (hr : RoomG k callerA)
    (F : ∀ base : Heap, K.In base → base.Ns mainGlobals mg → FnG P w K mg base CX k fa fd [x] sp) (hb : ∀ (s : Shared) (u : Value), BindsTo s fd ⟨[u], []⟩ [(x, u)]) (hCX : ∀ H e s', CX [] H z (fun _ _ _ => False) e s' → False)
    (H : Hp) (hO : Only H) (hsp : sp [.ref a] H (fun v _ => v = .bl true) fun _ _ _ => False) (ok : HOk P w H z.heap) (hA : ∀ b, H b ≠ none → b = a) (hK : H a ≠ none → K.lookup a = none) :
    codeAny (model P w) callerA (.call (.ref fa) ⟨[.ref a], []⟩) (fun r s' => r = .ok (.ret (.bool true)) ∧ OldK z.heap s'.heap ∧ s'.os = z.os ∧ AllBare s'.gens) z := by
  have non : ∀ {b : Addr} {o : Obj} {es : Array DictEntry} {ep : Nat}, z.heap.get? b = some o → o.data = .dict es ep → H b = none := by
    intro b o es ep e d
    refine Classical.byContradiction fun q => ?_
    have eb := hA b q
    subst eb
    rw [ha] at e
    cases e
    cases (show Data.seq vs.toArray _ = Data.dict es ep from d)
  have nk : ∀ {b : Addr} {m : Str → Option Value}, z.heap.Ns b m → (hidT z.heap H).Ns b m := by
    rintro b m ⟨o, es, ep, e, d, r⟩
    exact ⟨o, es, ep, hidT_get e (non e d), d, r⟩
  have kb : K.In (hidT z.heap H) := by
    intro b o e
    refine hidT_get (kz b o e) (Classical.byContradiction fun q => ?_)
    have eb := hA b q
    subst eb
    rw [hK q] at e
    cases e
  have hM : Mod K mg (hidT z.heap H) := ⟨kb, nk g1, ⟨mb, nk g2, g3⟩, lim.elim fun mc h => ⟨mc, nk h.1, h.2⟩⟩
  have e0 : Env0 P w K mg (hidT z.heap H) callerA [] z H := ⟨rfl, hM, fun b o e => of_hidT e, Nat.le_of_eq (hidT_size _ _), trivial, (by intro b hb; cases (show b ∈ ([] : List Addr) from hb)), ok, .of_eq gn⟩
  refine codeAny_mono ((F _ kb (nk g1)).go callerA [] z H ⟨[.ref a], []⟩ [.ref a] [.ref a] _ _ hr e0 (hb z (.ref a)) (.cons rfl .nil) hsp) fun r s' h => ?_
  match r, h with
  | .error e, h => exact (hCX H e s' h).elim
  | .ok .next, h => exact h.elim
  | .ok .brk, h => exact h.elim
  | .ok .cont, h => exact h.elim
  | .ok (.ret u), h =>
    obtain ⟨v, G, os, bare, un, ok', rv, q⟩ := h
    have q : v = .bl true := q
    subst q
    obtain rfl : u = Value.bool true := rv
    refine ⟨rfl, OldK.of_keep fun b o e => ?_, os, bare⟩
    rcases hO b with y | ⟨ob, xs, y⟩
    · exact un.keep b o e y (by intro n; cases (show b ∈ ([] : List Addr) from n)) (by simp)
    · obtain ⟨e1, _⟩ := ok b _ y
      obtain ⟨e2, _⟩ := ok' b _ (un.frzs b ob _ y)
      rw [e] at e1
      cases e1
      exact e2
theorem top_run {P : Program} {w : World} {K : PySem.W.Frag} {mg mb : Str → Option Value} {CX : CXT} {k : Nat} {fa a : Addr} {fd : FuncData} {x : Str} {sp : Sp} {z : Shared} {vs : List Value} {ns : List Int} (kz : K.In z.heap) (g1 : z.heap.Ns mainGlobals mg) (g2 : z.heap.Ns builtinsNs mb)
    (g3 : ∀ y : Str, y ≠ "__name__" → mb y = bootBuiltins y) (lim : z.heap.NoLimit) (gn : z.gens = #[]) (ha : z.heap.get? a = some { cls := .type "list", data := .seq vs.toArray }) (hi : IntsAre vs ns) (hl : ns.length ≤ sizeLine) (hr : RoomG k callerA)
    (F : ∀ base : Heap, K.In base → base.Ns mainGlobals mg → FnG P w K mg base CX k fa fd [x] sp) (hb : ∀ (s : Shared) (u : Value), BindsTo s fd ⟨[u], []⟩ [(x, u)]) (hCX : ∀ H e s', CX [] H z (fun _ _ _ => False) e s' → False)
    (hsp : ∀ H : Hp, Only H → SqL K H a (ns.map V.int) → sp [.ref a] H (fun v _ => v = .bl true) fun _ _ _ => False) :
    codeAny (model P w) callerA (.call (.ref fa) ⟨[.ref a], []⟩) (fun r s' => r = .ok (.ret (.bool true)) ∧ OldK z.heap s'.heap ∧ s'.os = z.os ∧ AllBare s'.gens) z := by
  have rv := vals_ints hi
  have le := hi.length
  cases hk : K.lookup a with
  | some o =>
    have e := kz a o hk
    rw [ha] at e
    cases e
    have hO : Only (fun _ => none) := fun _ => .inl rfl
    exact top_core (ns := ns) kz g1 g2 g3 lim gn ha hr F hb hCX _ hO (hsp _ hO (.inr ⟨_, vs.toArray, _, hk, rfl, rfl, rfl, (by rw [List.size_toArray, le]; exact hl), (by simpa using rv)⟩)) (by intro b u y; cases (show (none : Option HO) = some u from y)) (by intro b y; exact absurd rfl y) (by intro y; exact absurd rfl y)
  | none =>
    have h1 : ∀ b u, (if b = a then some (HO.frz { cls := .type "list", data := .seq vs.toArray } (.lst (ns.map V.int))) else none) = some u → b = a ∧ u = HO.frz { cls := .type "list", data := .seq vs.toArray } (.lst (ns.map V.int)) := by
      intro b u y
      by_cases n : b = a
      · rw [if_pos n] at y
        cases y
        exact ⟨n, rfl⟩
      · rw [if_neg n] at y
        cases y
    have hO : Only (fun b => if b = a then some (HO.frz { cls := .type "list", data := .seq vs.toArray } (.lst (ns.map V.int))) else none) := fun b => by
      by_cases n : b = a
      · exact .inr ⟨_, _, if_pos n⟩
      · exact .inl (if_neg n)
    refine top_core (ns := ns) kz g1 g2 g3 lim gn ha hr F hb hCX _ hO (hsp _ hO (.inl (.inr ⟨{ cls := .type "list", data := .seq vs.toArray }, if_pos rfl⟩))) (fun b u y => ?_) (fun b y => ?_) (fun _ => hk)
    · obtain ⟨rfl, rfl⟩ := h1 b u y
      exact ⟨ha, by rw [List.length_map]; exact hl, vs, _, rv, ha⟩
    · by_cases n : b = a
      · exact n
      · exact absurd (if_neg n) y
theorem walk_g {l : PySem.W.OpenLaw} {n k : Nat} {q : Program} {loose : List Str} {XP : (Str → Option Value) → Heap → Prop} {YP : World → Heap → Prop} {d : DefRec} {K : Params → PySem.W.Frag} {CX : World → CXT} {sp : World → Sp} {x : Str}
    (hn : l.most = some n) (hn2 : n ≤ sizeLine) (hdf : d.params.defaults = []) (hr : RoomG k callerA) (hY : ∀ (w : World) (h : Heap), YP w h → (K w.params).In h)
    (F : ∀ (w : World) (mg : Str → Option Value) (fa : Addr) (h : Heap), (K w.params).In h → h.Ns mainGlobals mg → mg d.name = some (.ref fa) → ∃ fd : FuncData, (∀ (s : Shared) (u : Value), BindsTo s fd ⟨[u], []⟩ [(x, u)]) ∧
        ∀ base : Heap, (K w.params).In base → base.Ns mainGlobals mg → FnG l.prog w (K w.params) mg base (CX w) k fa fd [x] (sp w))
    (hsp : ∀ (w : World) (H : Hp) (a : Addr) (ns : List Int), ns.length ≤ n → Only H → SqL (K w.params) H a (ns.map V.int) → sp w [.ref a] H (fun v _ => v = .bl true) fun _ _ _ => False)
    (hCX : ∀ (w : World) (H : Hp) (s : Shared) (e : Value) (s' : Shared), CX w [] H s (fun _ _ _ => False) e s' → False) :
    PySem.W.WalkO q loose XP YP l.row.toRowW d [] (fun f vs => PySem.call f vs) := by
  refine Att.attach_call hn hdf fun w s0 z mg mb fa o pm cd dc a vs ns G Y ho hd hcd hmg hobj hi hl hg => ?_
  have kz := hY w _ Y
  obtain ⟨fd, hb, hF⟩ := F w mg fa _ kz G.T.g hmg
  exact top_run kz G.T.g G.T.b G.T.builtins G.T.nolimit hg hobj hi (Nat.le_trans hl hn2) hr hF hb (fun H e s' => hCX w H z e s') fun H hO hS => hsp w H a ns hl hO hS
/-! ### heaps -/
theorem sm_new {H : Hp} {p : Addr} {o : HO} (h : H p = none) : Sm H (upd H p o) := fun b x e => by
  rw [upd_ne (ne_of_none e h)]
  exact e
/-- all but b as it was -/
def Kp (b : Addr) (H H' : Hp) : Prop := ∀ a o, a ≠ b → H a = some o → H' a = some o
theorem Kp.refl {b : Addr} (H : Hp) : Kp b H H := fun _ _ _ h => h
theorem Kp.trans {b : Addr} {H H1 H2 : Hp} (x : Kp b H H1) (y : Kp b H1 H2) : Kp b H H2 := fun a o n h => y a o n (x a o n h)
theorem Kp.of {b : Addr} {H H1 : Hp} (x : Sm H H1) : Kp b H H1 := fun a o _ h => x a o h
theorem kp_upd {b : Addr} {H : Hp} {o : HO} : Kp b H (upd H b o) := fun a x n h => by rw [upd_ne n]; exact h
theorem ne_new {H : Hp} {p b : Addr} {o : HO} (hp : H p = none) (hb : H b = some o) : p ≠ b := fun e => by rw [e, hb] at hp; cases hp
theorem Same.get {H H' : Hp} {a : Addr} {o : HO} (h : Sm H H') (k : H a = some o) : H' a = some o := h a o k
theorem Kp.get {b : Addr} {H H' : Hp} {a : Addr} {o : HO} (h : Kp b H H') (n : a ≠ b) (k : H a = some o) : H' a = some o := h a o n k
theorem ne_new2 {H : Hp} {p b : Addr} {o : HO} (hp : H p = none) (hb : H b = some o) : b ≠ p := fun e => by rw [← e, hb] at hp; cases hp
theorem sm_mut {H H1 H2 : Hp} {p : Addr} (s : Sm H H1) (n : H p = none) (k : Kp p H1 H2) : Sm H H2 := fun a o h => k a o (ne_of_none h n) (s a o h)
theorem kp_mut {b : Addr} {H H1 H2 : Hp} {p : Addr} (s : Kp b H H1) (n : H p = none) (k : Kp p H1 H2) : Kp b H H2 := fun a o m h => k a o (ne_of_none h n) (s a o m h)
theorem kp_free {b : Addr} {H H1 : Hp} {p : Addr} (s : Kp b H H1) (m : p ≠ b) (n : H1 p = none) : H p = none := by
  cases e : H p with
  | none => rfl
  | some o => rw [s p o m e] at n; cases n
/-- a list that no one stores into: the script's -/
def SqF (K : PySem.W.Frag) (H : Hp) (a : Addr) (xs : List V) : Prop := (∃ o, H a = some (.frz o (.lst xs))) ∨
  ∃ (o : Obj) (its : Array Value) (n : Nat), K.lookup a = some o ∧ o.cls = .type "list" ∧ o.dict = none ∧ o.data = .seq its n ∧ its.size ≤ sizeLine ∧ Vals xs its.toList
theorem SqF.sq {K : PySem.W.Frag} {H : Hp} {a : Addr} {xs : List V} (h : SqF K H a xs) : SqL K H a xs := by
  rcases h with h | h
  · exact .inl (.inr h)
  · exact .inr h
theorem SqF.sm {K : PySem.W.Frag} {H H' : Hp} {a : Addr} {xs : List V} (h : SqF K H a xs) (e : Sm H H') : SqF K H' a xs := by
  rcases h with ⟨o, h⟩ | h
  · exact .inl ⟨o, e _ _ h⟩
  · exact .inr h
theorem SqF.kp {K : PySem.W.Frag} {H H' : Hp} {a b : Addr} {xs ys : List V} (h : SqF K H a xs) (hb : H b = some (.lst ys)) (e : Kp b H H') : SqF K H' a xs := by
  rcases h with ⟨o, h⟩ | h
  · exact .inl ⟨o, e _ _ (ne_of h hb (by intro z; cases z)) h⟩
  · exact .inr h
theorem SqF.of {K : PySem.W.Frag} {H : Hp} {a : Addr} {xs : List V} (hO : Only H) (h : SqL K H a xs) : SqF K H a xs := by
  rcases h with (h | h) | h
  · rcases hO a with e | ⟨o, ys, e⟩
    · rw [e] at h; cases h
    · rw [e] at h; cases h
  · exact .inl h
  · exact .inr h
theorem g_sqf {K : PySem.W.Frag} {H H0 : Hp} {a : Addr} {xs ys : List V} (_ : SqF K H0 a ys) (h : SqF K H a xs) : SqF K H a xs := h
theorem g_lk {H H0 : Hp} {a : Addr} {o o' : HO} (_ : H0 a = some o') (h : H a = some o) : H a = some o := h
theorem g_fr {H H0 : Hp} {a : Addr} (_ : H0 a = none) (h : H a = none) : H a = none := h
/-- a list of tuples of values as told -/
def AllT (P : List V → Prop) (xs : List V) (H : Hp) : Prop := ∀ x ∈ xs, ∃ t vs, x = .ref t ∧ H t = some (.tup vs) ∧ P vs
theorem AllT.nil {P : List V → Prop} {H : Hp} : AllT P [] H := fun _ h => by cases h
theorem AllT.sm {P : List V → Prop} {xs : List V} {H H' : Hp} (h : AllT P xs H) (e : Sm H H') : AllT P xs H' := fun x hx => by
  obtain ⟨t, vs, a, b, c⟩ := h x hx
  exact ⟨t, vs, a, e _ _ b, c⟩
theorem AllT.kp {P : List V → Prop} {xs ys : List V} {H H' : Hp} {b : Addr} (h : AllT P xs H) (hb : H b = some (.lst ys)) (e : Kp b H H') : AllT P xs H' := fun x hx => by
  obtain ⟨t, vs, a, k, c⟩ := h x hx
  exact ⟨t, vs, a, e _ _ (ne_of k hb (by intro z; cases z)) k, c⟩
theorem AllT.add {P : List V → Prop} {xs vs : List V} {H : Hp} {t : Addr} (h : AllT P xs H) (k : H t = some (.tup vs)) (p : P vs) : AllT P (xs ++ [.ref t]) H := fun x hx => by
  rcases List.mem_append.mp hx with hx | hx
  · exact h x hx
  · cases hx with
    | head => exact ⟨t, vs, rfl, k, p⟩
    | tail _ z => cases z
theorem AllT.app {P : List V → Prop} {xs ys : List V} {H : Hp} (h : AllT P xs H) (k : AllT P ys H) : AllT P (xs ++ ys) H := fun x hx => (List.mem_append.mp hx).elim (h x) (k x)
theorem AllT.cut {P : List V → Prop} {xs : List V} {lo hi : Option Int} {H : Hp} (h : AllT P xs H) : AllT P (cutV xs lo hi) H := fun x hx => h x (List.mem_of_mem_drop (List.mem_of_mem_take hx))
theorem AllT.at {P : List V → Prop} {xs : List V} {H : Hp} {n : Nat} {x : V} (h : AllT P xs H) (e : xs[n]? = some x) : ∃ t vs, x = .ref t ∧ H t = some (.tup vs) ∧ P vs := h x (List.mem_of_getElem? e)
theorem sq_of {K : PySem.W.Frag} {H : Hp} {a : Addr} {xs : List V} (h : H a = some (.lst xs)) : SqL K H a xs := Or.inl (Or.inl h)
theorem st_of {K : PySem.W.Frag} {H : Hp} {a : Addr} {xs : List V} (h : H a = some (.tup xs)) : SqT K H a xs := Or.inl (Or.inl h)
theorem kp_sq {K : PySem.W.Frag} {b : Addr} {H H' : Hp} {a : Addr} {xs : List V} (e : Kp b H H') (n : a ≠ b) (h : SqL K H a xs) : SqL K H' a xs := by
  rcases h with (h | ⟨o, h⟩) | h
  · exact .inl (.inl (e _ _ n h))
  · exact .inl (.inr ⟨o, e _ _ n h⟩)
  · exact .inr h
theorem sm_sq {K : PySem.W.Frag} {H H' : Hp} {a : Addr} {xs : List V} (e : Sm H H') (h : SqL K H a xs) : SqL K H' a xs := e.seq h
theorem sz_of {n : Nat} (h : n ≤ 100000) : n ≤ sizeLine := Nat.le_trans h (by decide)
theorem sz_lt {n : Nat} (h : n < 100000) : n < sizeLine := Nat.lt_of_lt_of_le h (by decide)
/-! ### what follows, by names of our own -/
def NX (D : Ends) : L2.St → Hp → Prop := D.nx
def RT (D : Ends) : VK := D.rt
def IsBl (x : V) (R : Bool → Prop) : Prop := ∃ k, x = .bl k ∧ R k
def SpC (sp : Sp) (vs : List V) (H : Hp) (Q : VK) (E : XK) : Prop := sp (vs ++ []) H Q E
def PartE (R : Option Int → Hp → Prop) (x : V) (H : Hp) : Prop := ∃ i, x = .int i ∧ R (some i) H
def BmE (K : PySem.W.Frag) (T : String) (x : V) (H : Hp) (R : Prop) : Prop := tyV K T x H ∧ R
def En (n : L2.St → Hp → Prop) (r : VK) (b c : L2.St → Hp → Prop) : Ends := { nx := n, rt := r, bk := b, ct := c }
/-! ### loops -/
def Rg1 (R : It → Hp → Prop) (vs : List V) (H : Hp) : Prop := ∃ j : Int, vs = [.int j] ∧ -(2 ^ 62) ≤ j ∧ j < 2 ^ 62 ∧ R (Itr 0 j.toNat) H
def Rg2 (R : It → Hp → Prop) (vs : List V) (H : Hp) : Prop := ∃ i j : Int, vs = [.int i, .int j] ∧ (-(2 ^ 62) ≤ i ∧ i < 2 ^ 62 ∧ -(2 ^ 62) ≤ j ∧ j < 2 ^ 62) ∧ R (Itr i (j - i).toNat) H
def LsE (K : PySem.W.Frag) (R : It → Hp → Prop) (x : V) (H : Hp) : Prop := ∃ a, x = .ref a ∧ (∃ xs, SqL K H a xs) ∧ R (Itl K a) H
def TpE (K : PySem.W.Frag) (R : It → Hp → Prop) (x : V) (H : Hp) : Prop := ∃ a, x = .ref a ∧ (∃ xs, SqT K H a xs) ∧ R (Itt K a) H
def Loop (J : It) (g : TG) (tb : TS) : TS := fun D σ H => ∃ W : Nat → Nat → L2.St → Hp → Prop, (∃ m, W 0 m σ H) ∧ ∀ i m σ H, W i m σ H →
  (J.stop i H ∧ D.nx σ H) ∨ (J.go i H ∧ ∃ N : L2.St → Hp → Prop, (∀ σ' H', N σ' H' → ∃ m', m' < m ∧ W (i + 1) m' σ' H') ∧ ∀ x H', J.yld i H x H' → g x σ H' fun σ2 H2 => tb { D with nx := N, ct := N, bk := D.nx } σ2 H2)
section
variable {σ : L2.St} {H : Hp} {D : Ends} {K : PySem.W.Frag} {g : TG} {tb : TS} {ta : TA} {te : TE} {c : TT}
theorem w_for {wi : TI} (k : wi σ H fun J H1 => Loop J g tb D σ H1) : tFor wi g tb D σ H := k
theorem w_iR1 {R : It → Hp → Prop} (k : ta σ H fun vs H1 => Rg1 R vs H1) : iRng1 ta σ H R := k
theorem w_iR1e {n : Int} {R : It → Hp → Prop} (h1 : -(2 ^ 62) ≤ n) (h2 : n < 2 ^ 62) (k : R (Itr 0 n.toNat) H) : Rg1 R [V.int n] H := ⟨n, rfl, h1, h2, k⟩
theorem w_iR2 {R : It → Hp → Prop} (k : ta σ H fun vs H1 => Rg2 R vs H1) : iRng2 ta σ H R := k
theorem w_iR2e {m n : Int} {R : It → Hp → Prop} (h : -(2 ^ 62) ≤ m ∧ m < 2 ^ 62 ∧ -(2 ^ 62) ≤ n ∧ n < 2 ^ 62) (k : R (Itr m (n - m).toNat) H) : Rg2 R [V.int m, V.int n] H := ⟨m, n, rfl, h, k⟩
theorem w_iL {R : It → Hp → Prop} (k : te σ H fun x H1 => LsE K R x H1) : iList K te σ H R := k
theorem w_iLe {a : Addr} {xs : List V} {R : It → Hp → Prop} (h : SqL K H a xs) (k : R (Itl K a) H) : LsE K R (.ref a) H := ⟨a, rfl, ⟨xs, h⟩, k⟩
theorem w_iT {R : It → Hp → Prop} (k : te σ H fun x H1 => TpE K R x H1) : iTup K te σ H R := k
theorem w_iTe {a : Addr} {xs : List V} {R : It → Hp → Prop} (h : SqT K H a xs) (k : R (Itt K a) H) : TpE K R (.ref a) H := ⟨a, rfl, ⟨xs, h⟩, k⟩
theorem loopR {lo : Int} {n : Nat} (Pv : Nat → L2.St → Hp → Prop) (h0 : Pv 0 σ H) (hs : ∀ i σ H, i < n → Pv i σ H → g (.int (lo + i)) σ H fun σ2 H2 => tb (En (Pv (i + 1)) (RT D) (NX D) (Pv (i + 1))) σ2 H2)
    (hd : ∀ σ H, Pv n σ H → NX D σ H) : Loop (Itr lo n) g tb D σ H := for_range Pv h0 hs hd
theorem loopL {a : Addr} {xs : List V} (Pv : Nat → L2.St → Hp → Prop) (h0 : Pv 0 σ H) (hl : ∀ i σ H, i ≤ xs.length → Pv i σ H → SqL K H a xs)
    (hs : ∀ i x σ H, xs[i]? = some x → Pv i σ H → g x σ H fun σ2 H2 => tb (En (Pv (i + 1)) (RT D) (NX D) (Pv (i + 1))) σ2 H2) (hd : ∀ σ H, Pv xs.length σ H → NX D σ H) : Loop (Itl K a) g tb D σ H := for_list Pv h0 hl hs hd
def WT (Pv : Nat → L2.St → Hp → Prop) (m : Nat) (tb : TS) (D : Ends) (σ : L2.St) (H : Hp) : Prop := ∃ N : L2.St → Hp → Prop, (∀ σ' H', N σ' H' → ∃ m', m' < m ∧ Pv m' σ' H') ∧ tb { D with nx := N, ct := N, bk := D.nx } σ H
def WN (Pv : Nat → L2.St → Hp → Prop) (m : Nat) : L2.St → Hp → Prop := fun σ2 H2 => ∃ m', m' < m ∧ Pv m' σ2 H2
theorem w_wt {Pv : Nat → L2.St → Hp → Prop} {m : Nat} (k : tb (En (WN Pv m) (RT D) (NX D) (WN Pv m)) σ H) : WT Pv m tb D σ H := ⟨_, fun _ _ z => z, k⟩
theorem w_while (Pv : Nat → L2.St → Hp → Prop) (m0 : Nat) (h0 : Pv m0 σ H)
    (hs : ∀ m σ' H', Pv m σ' H' → c σ' H' fun b H1 => if b = true then WT Pv m tb D σ' H1 else NX D σ' H1) : tWhile c tb D σ H := ⟨Pv, ⟨m0, h0⟩, hs⟩
end
/-! ### list comprehensions -/
def LcL (J : It) (g : TG) (tt : TT) (te : TE) (vs : List Nat) (σ : L2.St) (H1 : Hp) (Q : VK) : Prop := ∀ D, H1 D = none → ∃ W : Nat → Nat → Hp → Prop, (∃ m, W 0 m (upd H1 D (.lst []))) ∧ ∀ i m H, W i m H →
  (J.stop i H ∧ Q (.ref D) H) ∨ (J.go i H ∧ ∃ Nx : Hp → Prop, (∀ H', Nx H' → ∃ m', m' < m ∧ W (i + 1) m' H') ∧ ∀ x H', J.yld i H x H' → g x (wipe σ vs) H' fun σ2 H2 => wipe σ2 vs = wipe σ vs ∧ tt σ2 H2 fun b H3 =>
    if b = true then te σ2 H3 fun y H4 => ∃ acc, H4 D = some (.lst acc) ∧ acc.length < sizeLine ∧ Nx (upd H4 D (.lst (acc ++ [y]))) else Nx H3)
def LcEnd (D : Addr) (y : V) (R : Hp → Prop) (H : Hp) : Prop := ∃ acc, H D = some (.lst acc) ∧ acc.length < sizeLine ∧ R (upd H D (.lst (acc ++ [y])))
def LcGo (vs : List Nat) (σ σ2 : L2.St) (R : Prop) : Prop := wipe σ2 vs = wipe σ vs ∧ R
section
variable {σ : L2.St} {H : Hp} {Q : VK} {g : TG} {tt : TT} {te : TE} {vs : List Nat} {K : PySem.W.Frag}
theorem w_lc {wi : TI} (k : wi σ H fun J H1 => LcL J g tt te vs σ H1 Q) : tLc wi g tt te vs σ H Q := k
theorem w_lcEnd {D : Addr} {y : V} {acc : List V} {R : Hp → Prop} (h : H D = some (.lst acc)) (z : acc.length < sizeLine) (k : ∀ H', Kp D H H' → H' D = some (.lst (acc ++ [y])) → R H') : LcEnd D y R H := ⟨acc, h, z, k _ kp_upd upd_same⟩
theorem w_lcGo {σ2 : L2.St} {R : Prop} (e : wipe σ2 vs = wipe σ vs) (k : R) : LcGo vs σ σ2 R := ⟨e, k⟩
theorem w_yes {QT : Bool → Hp → Prop} (k : QT true H) : tYes σ H QT := k
theorem lcR {lo : Int} {n : Nat} (Pv : Addr → Nat → Hp → Prop) (h0 : ∀ D H', H D = none → Sm H H' → H' D = some (.lst []) → Pv D 0 H')
    (hs : ∀ D i H', H D = none → i < n → Pv D i H' → g (.int (lo + i)) (wipe σ vs) H' fun σ2 H2 => LcGo vs σ σ2 (tt σ2 H2 fun b H3 => if b = true then te σ2 H3 fun y H4 => LcEnd D y (Pv D (i + 1)) H4 else Pv D (i + 1) H3))
    (hd : ∀ D H', H D = none → Pv D n H' → Q (.ref D) H') : LcL (Itr lo n) g tt te vs σ H Q := fun D hD =>
  lc_range (Pv D) (h0 D _ hD (sm_new hD) upd_same) (fun i H' hi p => hs D i H' hD hi p) (fun H' p => hd D H' hD p)
theorem lcLs {a : Addr} {xs : List V} (Pv : Addr → Nat → Hp → Prop) (h0 : ∀ D H', H D = none → Sm H H' → H' D = some (.lst []) → Pv D 0 H') (hl : ∀ D i H', H D = none → i ≤ xs.length → Pv D i H' → SqL K H' a xs)
    (hs : ∀ D i x H', H D = none → xs[i]? = some x → Pv D i H' → g x (wipe σ vs) H' fun σ2 H2 => LcGo vs σ σ2 (tt σ2 H2 fun b H3 => if b = true then te σ2 H3 fun y H4 => LcEnd D y (Pv D (i + 1)) H4 else Pv D (i + 1) H3))
    (hd : ∀ D H', H D = none → Pv D xs.length H' → Q (.ref D) H') : LcL (Itl K a) g tt te vs σ H Q := fun D hD =>
  lc_list (xs := xs) (Pv D) (h0 D _ hD (sm_new hD) upd_same) (fun i H' hi p => hl D i H' hD hi p) (fun i x H' hi p => hs D i x H' hD hi p) (fun H' p => hd D H' hD p)
theorem lcTp {a : Addr} {xs : List V} (Pv : Addr → Nat → Hp → Prop) (h0 : ∀ D H', H D = none → Sm H H' → H' D = some (.lst []) → Pv D 0 H') (hl : ∀ D i H', H D = none → i ≤ xs.length → Pv D i H' → SqT K H' a xs)
    (hs : ∀ D i x H', H D = none → xs[i]? = some x → Pv D i H' → g x (wipe σ vs) H' fun σ2 H2 => LcGo vs σ σ2 (tt σ2 H2 fun b H3 => if b = true then te σ2 H3 fun y H4 => LcEnd D y (Pv D (i + 1)) H4 else Pv D (i + 1) H3))
    (hd : ∀ D H', H D = none → Pv D xs.length H' → Q (.ref D) H') : LcL (Itt K a) g tt te vs σ H Q := fun D hD =>
  lc_tup (xs := xs) (Pv D) (h0 D _ hD (sm_new hD) upd_same) (fun i H' hi p => hl D i H' hD hi p) (fun i x H' hi p => hs D i x H' hD hi p) (fun H' p => hd D H' hD p)
end
/-! ### keywords -/
/-! ### steps -/
section
variable {σ : L2.St} {H : Hp} {Q : VK} {QT : Bool → Hp → Prop} {QA : List V → Hp → Prop} {D : Ends} {K : PySem.W.Frag} {te ta tb : TE} {tt tu : TT} {t1 t2 : TS} {v x y : V} {i j : Int} {b : Bool}
theorem w_var {n : Nat} (h : σ[n]? = some (some v)) (k : Q v H) : tVar n σ H Q := ⟨v, h, k⟩
theorem w_c (k : Q v H) : tC v σ H Q := k
theorem w_op {r : R2} (k : ta σ H fun x H1 => tb σ H1 fun y H2 => r x y H2 Q) : tOp r ta tb σ H Q := k
theorem w_un {r : V → Hp → VK → Prop} (k : ta σ H fun x H1 => r x H1 Q) : tUn r ta σ H Q := k
theorem w_rU {g : Int → V} (k : Q (g i) H) : rU g (.int i) H Q := ⟨i, rfl, k⟩
theorem inV_S2 {s a c : Str} : inV (.str s) [.str a, .str c] = decide (s = a ∨ s = c) := by
  show ((a == s) || ((c == s) || false)) = _
  rw [Bool.or_false]
  by_cases h1 : s = a
  · subst h1; simp
  · by_cases h2 : s = c
    · subst h2; simp
    · have e1 : (a == s) = false := by simpa using fun e : a = s => h1 e.symm
      have e2 : (c == s) = false := by simpa using fun e : c = s => h2 e.symm
      rw [e1, e2, decide_eq_false (by rintro (h | h); exact h1 h; exact h2 h)]
      rfl
theorem w_inS2 {p : Addr} {s a c : Str} (h : SqT K H p [.str a, .str c]) (k : Q (.bl (decide (s = a ∨ s = c))) H) : rIn K false (.str s) (.ref p) H Q := ⟨p, _, rfl, .inr h, rfl, rfl, by rw [inV_S2]; exact k⟩
theorem w_niS2 {p : Addr} {s a c : Str} (h : SqT K H p [.str a, .str c]) (k : Q (.bl (!decide (s = a ∨ s = c))) H) : rIn K true (.str s) (.ref p) H Q := ⟨p, _, rfl, .inr h, rfl, rfl, by rw [inV_S2]; exact k⟩
theorem w_cb {r : List V → Hp → VK → Prop} {t : TA} (k : t σ H fun vs H1 => r vs H1 Q) : tCB r t σ H Q := k
theorem w_nil (k : QA [] H) : tNil σ H QA := k
theorem w_cons {tr : TA} (k : ta σ H fun x H1 => tr σ H1 fun xs H2 => QA (x :: xs) H2) : tCons ta tr σ H QA := k
def NewL (xs : List V) (H : Hp) (Q : VK) : Prop := xs.length ≤ sizeLine ∧ ∀ p, H p = none → Q (.ref p) (upd H p (.lst xs))
def NewT (xs : List V) (H : Hp) (Q : VK) : Prop := xs.length ≤ sizeLine ∧ ∀ p, H p = none → Q (.ref p) (upd H p (.tup xs))
theorem w_lst {t : TA} (k : t σ H fun xs H1 => NewL xs H1 Q) : tLst t σ H Q := k
theorem w_tup {t : TA} (k : t σ H fun xs H1 => NewT xs H1 Q) : tTup t σ H Q := k
theorem w_newL {xs : List V} (z : xs.length ≤ sizeLine) (k : ∀ p H', H p = none → Sm H H' → H' p = some (.lst xs) → Q (.ref p) H') : NewL xs H Q := ⟨z, fun p hp => k p _ hp (sm_new hp) upd_same⟩
theorem w_newT {xs : List V} (z : xs.length ≤ sizeLine) (k : ∀ p H', H p = none → Sm H H' → H' p = some (.tup xs) → Q (.ref p) H') : NewT xs H Q := ⟨z, fun p hp => k p _ hp (sm_new hp) upd_same⟩
theorem w_call {sp : Sp} {E : XK} {t : TA} (k : t σ H fun vs H1 => SpC sp vs H1 Q E) : tCall sp [] E t σ H Q := k
theorem w_sp {sp : Sp} {E : XK} {vs : List V} (k : sp vs H Q E) : SpC sp vs H Q E := by unfold SpC; rw [List.append_nil]; exact k
theorem w_callK {sp : Sp} {gV : List V → List V → List V} {E : XK} {t tk : TA} (k : t σ H fun vs H1 => tk σ H1 fun zs H2 => sp (gV vs zs) H2 Q E) : tCallK sp gV E t tk σ H Q := k
/-! values of operations -/
theorem w_ixL' {p : Addr} {xs : List V} (h : SqL K H p xs) (a : atI xs i = some v) (k : Q v H) : rIx K (.ref p) (.int i) H Q := .inl ⟨p, xs, i, v, rfl, rfl, h, a, k⟩
theorem w_addI (k : Q (.int (i + j)) H) : gAdd K (.int i) (.int j) H Q := .inl ⟨i, j, rfl, rfl, k⟩
theorem w_addS {a b : Str} (z : a.length + b.length ≤ sizeLine) (k : Q (.str (a ++ b)) H) : gAdd K (.str a) (.str b) H Q := .inr (.inl ⟨a, b, rfl, rfl, z, k⟩)
theorem w_addL {l m : Addr} {xs ys : List V} (h1 : H l = some (.lst xs)) (h2 : H m = some (.lst ys)) (z : xs.length + ys.length ≤ sizeLine) (k : ∀ p H', H p = none → Sm H H' → H' p = some (.lst (xs ++ ys)) → Q (.ref p) H') :
    gAdd K (.ref l) (.ref m) H Q := .inr (.inr (.inl ⟨l, m, xs, ys, rfl, rfl, h1, h2, z, fun p hp => k p _ hp (sm_new hp) upd_same⟩))
theorem w_I0 {g : Int → Int → V} (k : Q (g i j) H) : rI0 g (.int i) (.int j) H Q := ⟨i, j, rfl, rfl, k⟩
theorem w_mulI (c : CM i j) (k : Q (.int (i * j)) H) : gMul (.int i) (.int j) H Q := by
  rcases c with c | c
  · exact .inl ⟨i, j, rfl, rfl, c, k⟩
  · exact .inr (.inl ⟨i, j, rfl, rfl, c, k⟩)
theorem w_divI (c : CDivW i j) (k : Q (.int (i / j)) H) : gDiv (.int i) (.int j) H Q := ⟨i, j, rfl, rfl, c, k⟩
theorem w_modI (c : 0 < j) (k : Q (.int (i % j)) H) : gMod (.int i) (.int j) H Q := ⟨i, j, rfl, rfl, c, k⟩
theorem w_modF (c : 0 < j) (k : ∀ z : Int, z = i % j → 0 ≤ z → z < j → (0 ≤ i → z ≤ i) → Q (.int z) H) : gMod (.int i) (.int j) H Q :=
  w_modI c (k _ rfl (Int.emod_nonneg _ (Int.ne_of_gt c)) (Int.emod_lt_of_pos _ c) fun h => by
    by_cases h2 : i < j
    · rw [Int.emod_eq_of_lt h h2]; exact Int.le_refl _
    · have := Int.emod_lt_of_pos i c
      omega)
theorem w_shlI (c : CShl i j) (k : Q (.int (i * 2 ^ j.toNat)) H) : gShl (.int i) (.int j) H Q := ⟨i, j, rfl, rfl, c, k⟩
theorem w_powI (c : CPow i j) (k : Q (.int (i ^ j.toNat)) H) : gPow (.int i) (.int j) H Q := ⟨i, j, rfl, rfl, c, k⟩
theorem w_shr1 (k : Q (.int (i / 2)) H) : gShr (.int i) (.int 1) H Q := ⟨i, 1, rfl, rfl, (show (0 : Int) ≤ 1 by decide), (show Q (.int (i / 2 ^ Int.toNat 1)) H from k)⟩
theorem w_iaddI (k : Q (.int (i + j)) H) : gIAdd (.int i) (.int j) H Q := .inl ⟨i, j, rfl, rfl, k⟩
theorem w_imulI (c : CM i j) (k : Q (.int (i * j)) H) : gIMul (.int i) (.int j) H Q := by
  rcases c with c | c
  · exact .inl ⟨i, j, rfl, rfl, c, k⟩
  · exact .inr ⟨i, j, rfl, rfl, c, k⟩
theorem w_xorI (k : Q (.int (Builtin.bitXor i j)) H) : gXor (.int i) (.int j) H Q := ⟨i, j, rfl, rfl, k⟩
theorem w_isiIb (k : Q (.bl false) H) : rIsi K [.int i, .ty "bool"] H Q := ⟨_, _, _, _, _, rfl, .ty _, .base (.int _), kit_ty (by decide +kernel), k⟩
theorem w_isiIi (k : Q (.bl true) H) : rIsi K [.int i, .ty "int"] H Q := ⟨_, _, _, _, _, rfl, .ty _, .base (.int _), kit_ty (by decide +kernel), k⟩
theorem w_isiBb (k : Q (.bl true) H) : rIsi K [.bl b, .ty "bool"] H Q := ⟨_, _, _, _, _, rfl, .ty _, .base (.bl _), kit_ty (by decide +kernel), k⟩
theorem w_isiSs {s : Str} (k : Q (.bl true) H) : rIsi K [.str s, .ty "str"] H Q := ⟨_, _, _, _, _, rfl, .ty _, .base (.str _), kit_ty (by decide +kernel), k⟩
theorem w_isiTup {a : Addr} {xs : List V} (h : H a = some (.tup xs)) (k : Q (.bl true) H) : rIsi K [.ref a, .ty "tuple"] H Q := ⟨_, _, _, _, _, rfl, .ty _, .base (.tup h), kit_ty (by decide +kernel), k⟩
theorem w_ixInts {p : Addr} {ns : List Int} (h : SqL K H p (ns.map V.int)) (h0 : 0 ≤ i) (h1 : i < ((ns.map V.int).length : Int)) (k : ∀ n : Int, n ∈ ns → Q (.int n) H) : rIx K (.ref p) (.int i) H Q := by
  obtain ⟨j, rfl⟩ := Int.eq_ofNat_of_zero_le h0
  have h2 : j < ns.length := by rw [List.length_map] at h1; omega
  exact w_ixL' h (atI_nat (by rw [List.getElem?_map, List.getElem?_eq_getElem h2]; rfl)) (k _ (List.getElem_mem h2))
theorem w_ix2I {p : Addr} {x y : Int} (h : SqL K H p [.int x, .int y]) (h0 : 0 ≤ i) (h1 : i < 2) (k : ∀ z : Int, i = 0 ∧ z = x ∨ i = 1 ∧ z = y → Q (.int z) H) : rIx K (.ref p) (.int i) H Q := by
  rcases (show i = 0 ∨ i = 1 by omega) with rfl | rfl
  · exact w_ixL' h (atI_nat (j := 0) rfl) (k _ (.inl ⟨rfl, rfl⟩))
  · exact w_ixL' h (atI_nat (j := 1) rfl) (k _ (.inr ⟨rfl, rfl⟩))
theorem w_ix3I {p : Addr} {x0 x1 x2 : Int} (h : SqL K H p [.int x0, .int x1, .int x2]) (h0 : 0 ≤ i) (h1 : i < 3) (k : ∀ z : Int, z = x0 ∨ z = x1 ∨ z = x2 → Q (.int z) H) : rIx K (.ref p) (.int i) H Q := by
  rcases (show i = 0 ∨ i = 1 ∨ i = 2 by omega) with rfl | rfl | rfl
  · exact w_ixL' h (atI_nat (j := 0) rfl) (k _ (by omega))
  · exact w_ixL' h (atI_nat (j := 1) rfl) (k _ (by omega))
  · exact w_ixL' h (atI_nat (j := 2) rfl) (k _ (by omega))
theorem w_ix4I {p : Addr} {x0 x1 x2 x3 : Int} (h : SqL K H p [.int x0, .int x1, .int x2, .int x3]) (h0 : 0 ≤ i) (h1 : i < 4) (k : ∀ z : Int, z = x0 ∨ z = x1 ∨ z = x2 ∨ z = x3 → Q (.int z) H) : rIx K (.ref p) (.int i) H Q := by
  rcases (show i = 0 ∨ i = 1 ∨ i = 2 ∨ i = 3 by omega) with rfl | rfl | rfl | rfl
  · exact w_ixL' h (atI_nat (j := 0) rfl) (k _ (by omega))
  · exact w_ixL' h (atI_nat (j := 1) rfl) (k _ (by omega))
  · exact w_ixL' h (atI_nat (j := 2) rfl) (k _ (by omega))
  · exact w_ixL' h (atI_nat (j := 3) rfl) (k _ (by omega))
theorem w_ix5I {p : Addr} {x0 x1 x2 x3 x4 : Int} (h : SqL K H p [.int x0, .int x1, .int x2, .int x3, .int x4]) (h0 : 0 ≤ i) (h1 : i < 5) (k : ∀ z : Int, z = x0 ∨ z = x1 ∨ z = x2 ∨ z = x3 ∨ z = x4 → Q (.int z) H) : rIx K (.ref p) (.int i) H Q := by
  rcases (show i = 0 ∨ i = 1 ∨ i = 2 ∨ i = 3 ∨ i = 4 by omega) with rfl | rfl | rfl | rfl | rfl
  · exact w_ixL' h (atI_nat (j := 0) rfl) (k _ (by omega))
  · exact w_ixL' h (atI_nat (j := 1) rfl) (k _ (by omega))
  · exact w_ixL' h (atI_nat (j := 2) rfl) (k _ (by omega))
  · exact w_ixL' h (atI_nat (j := 3) rfl) (k _ (by omega))
  · exact w_ixL' h (atI_nat (j := 4) rfl) (k _ (by omega))
theorem w_ix6I {p : Addr} {x0 x1 x2 x3 x4 x5 : Int} (h : SqL K H p [.int x0, .int x1, .int x2, .int x3, .int x4, .int x5]) (h0 : 0 ≤ i) (h1 : i < 6) (k : ∀ z : Int, z = x0 ∨ z = x1 ∨ z = x2 ∨ z = x3 ∨ z = x4 ∨ z = x5 → Q (.int z) H) : rIx K (.ref p) (.int i) H Q := by
  rcases (show i = 0 ∨ i = 1 ∨ i = 2 ∨ i = 3 ∨ i = 4 ∨ i = 5 by omega) with rfl | rfl | rfl | rfl | rfl | rfl
  · exact w_ixL' h (atI_nat (j := 0) rfl) (k _ (by omega))
  · exact w_ixL' h (atI_nat (j := 1) rfl) (k _ (by omega))
  · exact w_ixL' h (atI_nat (j := 2) rfl) (k _ (by omega))
  · exact w_ixL' h (atI_nat (j := 3) rfl) (k _ (by omega))
  · exact w_ixL' h (atI_nat (j := 4) rfl) (k _ (by omega))
  · exact w_ixL' h (atI_nat (j := 5) rfl) (k _ (by omega))
theorem w_ix7I {p : Addr} {x0 x1 x2 x3 x4 x5 x6 : Int} (h : SqL K H p [.int x0, .int x1, .int x2, .int x3, .int x4, .int x5, .int x6]) (h0 : 0 ≤ i) (h1 : i < 7) (k : ∀ z : Int, z = x0 ∨ z = x1 ∨ z = x2 ∨ z = x3 ∨ z = x4 ∨ z = x5 ∨ z = x6 → Q (.int z) H) : rIx K (.ref p) (.int i) H Q := by
  rcases (show i = 0 ∨ i = 1 ∨ i = 2 ∨ i = 3 ∨ i = 4 ∨ i = 5 ∨ i = 6 by omega) with rfl | rfl | rfl | rfl | rfl | rfl | rfl
  · exact w_ixL' h (atI_nat (j := 0) rfl) (k _ (by omega))
  · exact w_ixL' h (atI_nat (j := 1) rfl) (k _ (by omega))
  · exact w_ixL' h (atI_nat (j := 2) rfl) (k _ (by omega))
  · exact w_ixL' h (atI_nat (j := 3) rfl) (k _ (by omega))
  · exact w_ixL' h (atI_nat (j := 4) rfl) (k _ (by omega))
  · exact w_ixL' h (atI_nat (j := 5) rfl) (k _ (by omega))
  · exact w_ixL' h (atI_nat (j := 6) rfl) (k _ (by omega))
theorem w_ix8I {p : Addr} {x0 x1 x2 x3 x4 x5 x6 x7 : Int} (h : SqL K H p [.int x0, .int x1, .int x2, .int x3, .int x4, .int x5, .int x6, .int x7]) (h0 : 0 ≤ i) (h1 : i < 8) (k : ∀ z : Int, z = x0 ∨ z = x1 ∨ z = x2 ∨ z = x3 ∨ z = x4 ∨ z = x5 ∨ z = x6 ∨ z = x7 → Q (.int z) H) : rIx K (.ref p) (.int i) H Q := by
  rcases (show i = 0 ∨ i = 1 ∨ i = 2 ∨ i = 3 ∨ i = 4 ∨ i = 5 ∨ i = 6 ∨ i = 7 by omega) with rfl | rfl | rfl | rfl | rfl | rfl | rfl | rfl
  · exact w_ixL' h (atI_nat (j := 0) rfl) (k _ (by omega))
  · exact w_ixL' h (atI_nat (j := 1) rfl) (k _ (by omega))
  · exact w_ixL' h (atI_nat (j := 2) rfl) (k _ (by omega))
  · exact w_ixL' h (atI_nat (j := 3) rfl) (k _ (by omega))
  · exact w_ixL' h (atI_nat (j := 4) rfl) (k _ (by omega))
  · exact w_ixL' h (atI_nat (j := 5) rfl) (k _ (by omega))
  · exact w_ixL' h (atI_nat (j := 6) rfl) (k _ (by omega))
  · exact w_ixL' h (atI_nat (j := 7) rfl) (k _ (by omega))
theorem shl1_ok (h0 : 0 ≤ j) (h : j ≤ 1000000) : CShl 1 j := by
  refine ⟨h0, ?_⟩
  have : Builtin.Int.intBits 1 ≤ 1 := intBits_le (by decide)
  omega
theorem pow_bd {m : Nat} (h : j ≤ (m : Int)) : 1 ≤ 1 * (2 : Int) ^ j.toNat ∧ 1 * (2 : Int) ^ j.toNat ≤ 2 ^ m ∧ (1 ≤ j → 2 ≤ 1 * (2 : Int) ^ j.toNat) := by
  have e : ∀ n : Nat, (2 : Int) ^ n = ((2 ^ n : Nat) : Int) := fun n => by rw [Int.natCast_pow]; rfl
  have h1 : 2 ^ j.toNat ≤ 2 ^ m := Nat.pow_le_pow_right (by decide) (by omega)
  have h2 : 0 < 2 ^ j.toNat := Nat.two_pow_pos _
  rw [Int.one_mul, e, e]
  refine ⟨by omega, by omega, fun hj => ?_⟩
  have h3 : 2 ^ 1 ≤ 2 ^ j.toNat := Nat.pow_le_pow_right (by decide) (by omega)
  omega
theorem and_nat {a b : Nat} : Builtin.bitAnd (a : Int) (b : Int) = ((a &&& b : Nat) : Int) := by
  have h := bitAnd_pp (Int.natCast_nonneg a) (Int.natCast_nonneg b)
  rw [Int.toNat_natCast, Int.toNat_natCast] at h
  exact h
theorem and_bd (h0 : 0 ≤ i) (h1 : 0 ≤ j) : 0 ≤ Builtin.bitAnd i j ∧ Builtin.bitAnd i j ≤ i ∧ Builtin.bitAnd i j ≤ j := by
  obtain ⟨a, rfl⟩ := Int.eq_ofNat_of_zero_le h0
  obtain ⟨b, rfl⟩ := Int.eq_ofNat_of_zero_le h1
  rw [and_nat]
  have e1 := @Nat.and_le_left a b
  have e2 := @Nat.and_le_right a b
  omega
def gOr : R2 := rI0 fun i j => .int (Builtin.bitOr i j)
theorem w_orF (h0 : 0 ≤ i) (h1 : 0 ≤ j) (k : ∀ z : Int, z = Builtin.bitOr i j → 0 ≤ z → z ≤ i + j → Q (.int z) H) : gOr (.int i) (.int j) H Q := ⟨i, j, rfl, rfl, k _ rfl (by rw [L2.bitOr_nn h0 h1]; exact Int.natCast_nonneg _) (by rw [bitOr_and]; have := (and_bd h0 h1).1; omega)⟩
theorem dV_bl {s t : Bool} : decide (V.bl s = V.bl t) = decide (s = t) := by cases s <;> cases t <;> rfl
theorem w_eqB {s t : Bool} (k : Q (.bl (decide (s = t))) H) : gEq K (.bl s) (.bl t) H Q := .inl ⟨rfl, by rw [dV_bl]; exact k⟩
theorem w_neB {s t : Bool} (k : Q (.bl (!decide (s = t))) H) : gNe K (.bl s) (.bl t) H Q := .inl ⟨rfl, by rw [dV_bl]; exact k⟩
def gIs : R2 := fun x y H Q => y = .non ∧ Q (.bl (decide (x = .non))) H
def gNot : R2 := fun x y H Q => y = .non ∧ Q (.bl (!decide (x = .non))) H
theorem op_gIs {X : Cx} : OpR X (compareOp .Is) gIs := op_isN
theorem op_gNot {X : Cx} : OpR X (compareOp .IsNot) gNot := op_notN
theorem w_isN0 (k : Q (.bl true) H) : gIs .non .non H Q := ⟨rfl, by simpa using k⟩
theorem w_notN0 (k : Q (.bl false) H) : gNot .non .non H Q := ⟨rfl, by simpa using k⟩
theorem w_isNx (h : x ≠ .non) (k : Q (.bl false) H) : gIs x .non H Q := ⟨rfl, by rw [decide_eq_false h]; exact k⟩
theorem w_notNx (h : x ≠ .non) (k : Q (.bl true) H) : gNot x .non H Q := ⟨rfl, by rw [decide_eq_false h]; exact k⟩
theorem w_isBT (k : Q (.bl b) H) : rIsB (.bl b) (.bl true) H Q := ⟨b, true, rfl, rfl, by cases b <;> exact k⟩
theorem w_notBT (k : Q (.bl (!b)) H) : rNotB (.bl b) (.bl true) H Q := ⟨b, true, rfl, rfl, by cases b <;> exact k⟩
theorem w_sum {p : Addr} {ns : List Int} (h : SqL K H p (ns.map V.int)) (k : Q (.int ns.sum) H) : rSum K [.ref p] H Q := ⟨p, ns, rfl, h, k⟩
theorem w_all {p : Addr} {bs : List Bool} (h : SqL K H p (bs.map V.bl)) (k : Q (.bl (bs.all id)) H) : rAll K [.ref p] H Q := ⟨p, bs, rfl, h, k⟩
theorem w_shl1F (h0 : 0 ≤ j) (h : j ≤ 1000000) (k : ∀ z : Int, z = 2 ^ j.toNat → 1 ≤ z → (1 ≤ j → 2 ≤ z) → (j ≤ 9 → z ≤ 512) → (j ≤ 40 → z ≤ 1099511627776) → Q (.int z) H) : gShl (.int 1) (.int j) H Q := by
  obtain ⟨q1, q2, q3⟩ := pow_bd (j := j) (m := 1000000) (by omega)
  rw [Int.one_mul] at q1 q3
  refine w_shlI (shl1_ok h0 h) ?_
  rw [Int.one_mul]
  exact k _ rfl q1 q3 (fun h => by have := (pow_bd (j := j) (m := 9) (by omega)).2.1; rw [Int.one_mul] at this; omega) (fun h => by have := (pow_bd (j := j) (m := 40) (by omega)).2.1; rw [Int.one_mul] at this; omega)
theorem w_andF (h0 : 0 ≤ i) (h1 : 0 ≤ j) (k : ∀ z : Int, z = Builtin.bitAnd i j → 0 ≤ z → z ≤ i → z ≤ j → Q (.int z) H) : gAnd (.int i) (.int j) H Q := by
  obtain ⟨q1, q2, q3⟩ := and_bd h0 h1
  exact ⟨i, j, rfl, rfl, k _ rfl q1 q2 q3⟩
def BitsE (Q : VK) (x : V) (H : Hp) : Prop := ∃ i, x = .int i ∧ Q (.int (Builtin.Int.intBits i : Nat)) H
theorem w_bits {to : TE} (k : to σ H fun x H1 => BitsE Q x H1) : tBits to σ H Q := k
theorem bits_lt (i : Int) : i.natAbs < 2 ^ Builtin.Int.intBits i := by
  unfold Builtin.Int.intBits
  split
  · rename_i h
    have : i = 0 := by simpa using h
    subst this; decide
  · exact Nat.lt_log2_self
theorem w_bitsE (k : ∀ m : Nat, m = Builtin.Int.intBits i → i.natAbs < 2 ^ m → Q (.int m) H) : BitsE Q (.int i) H := ⟨i, rfl, k _ rfl (bits_lt i)⟩
theorem w_shrI (c : 0 ≤ j) (k : Q (.int (i / 2 ^ j.toNat)) H) : gShr (.int i) (.int j) H Q := ⟨i, j, rfl, rfl, c, k⟩
theorem w_andI (k : Q (.int (Builtin.bitAnd i j)) H) : gAnd (.int i) (.int j) H Q := ⟨i, j, rfl, rfl, k⟩
theorem w_ltI (k : Q (.bl (decide (i < j))) H) : gLt (.int i) (.int j) H Q := ⟨i, j, rfl, rfl, k⟩
theorem w_leI (k : Q (.bl (decide (i ≤ j))) H) : gLe (.int i) (.int j) H Q := ⟨i, j, rfl, rfl, k⟩
theorem w_gtI (k : Q (.bl (decide (j < i))) H) : gGt (.int i) (.int j) H Q := ⟨i, j, rfl, rfl, k⟩
theorem w_geI (k : Q (.bl (decide (j ≤ i))) H) : gGe (.int i) (.int j) H Q := ⟨i, j, rfl, rfl, k⟩
theorem dV_int : decide (V.int i = V.int j) = decide (i = j) := by
  by_cases h : i = j
  · subst h; simp
  · rw [decide_eq_false h, decide_eq_false (fun e => h (V.int.inj e))]
theorem dV_str {s t : Str} : decide (V.str s = V.str t) = decide (s = t) := by
  by_cases h : s = t
  · subst h; simp
  · rw [decide_eq_false h, decide_eq_false (fun e => h (V.str.inj e))]
theorem w_eqI (k : Q (.bl (decide (i = j))) H) : gEq K (.int i) (.int j) H Q := .inl ⟨rfl, by rw [dV_int]; exact k⟩
theorem w_neI (k : Q (.bl (!decide (i = j))) H) : gNe K (.int i) (.int j) H Q := .inl ⟨rfl, by rw [dV_int]; exact k⟩
theorem w_eqS {s t : Str} (k : Q (.bl (decide (s = t))) H) : gEq K (.str s) (.str t) H Q := .inl ⟨rfl, by rw [dV_str]; exact k⟩
theorem w_neS {s t : Str} (k : Q (.bl (!decide (s = t))) H) : gNe K (.str s) (.str t) H Q := .inl ⟨rfl, by rw [dV_str]; exact k⟩
theorem w_lenL {p : Addr} {xs : List V} (h : SqL K H p xs) (k : Q (.int (xs.length : Int)) H) : gLen K [.ref p] H Q := .inl ⟨p, xs, rfl, .inl h, k⟩
theorem w_lenT {p : Addr} {xs : List V} (h : SqT K H p xs) (k : Q (.int (xs.length : Int)) H) : gLen K [.ref p] H Q := .inl ⟨p, xs, rfl, .inr h, k⟩
theorem w_lenS {s : Str} (z : s.length ≤ sizeLine) (k : Q (.int (s.length : Int)) H) : gLen K [.str s] H Q := .inr ⟨s, rfl, z, k⟩
theorem w_intB (k1 : b = true → Q (.int 1) H) (k0 : b = false → Q (.int 0) H) : gIntC [.bl b] H Q := .inr ⟨b, rfl, by cases b; exact k0 rfl; exact k1 rfl⟩
theorem w_intD {c : Prop} [Decidable c] (k1 : c → Q (.int 1) H) (k0 : ¬ c → Q (.int 0) H) : gIntC [.bl (decide c)] H Q := w_intB (fun e => k1 (of_decide_eq_true e)) (fun e => k0 (of_decide_eq_false e))
theorem w_intDn {c : Prop} [Decidable c] (k1 : ¬ c → Q (.int 1) H) (k0 : c → Q (.int 0) H) : gIntC [.bl (!decide c)] H Q := w_intB (fun e => k1 (fun z => by rw [decide_eq_true z] at e; cases e)) (fun e => k0 (Decidable.byContradiction fun z => by rw [decide_eq_false z] at e; cases e))
theorem w_intI (k : Q (.int i) H) : gIntC [.int i] H Q := .inl ⟨i, rfl, k⟩
theorem w_max (k : Q (.int (max i j)) H) : gMax [.int i, .int j] H Q := ⟨i, j, rfl, by
  have e : (if j > i then j else i) = max i j := by split <;> omega
  rw [e]; exact k⟩
theorem w_min (k : Q (.int (min i j)) H) : gMin [.int i, .int j] H Q := ⟨i, j, rfl, by
  have e : (if j < i then j else i) = min i j := by split <;> omega
  rw [e]; exact k⟩
theorem w_ixL {p : Addr} {xs : List V} (h : SqL K H p xs) (a : atI xs i = some v) (k : Q v H) : rIx K (.ref p) (.int i) H Q := .inl ⟨p, xs, i, v, rfl, rfl, h, a, k⟩
theorem w_ixT {p : Addr} {xs : List V} (h : SqT K H p xs) (a : atI xs i = some v) (k : Q v H) : rIx K (.ref p) (.int i) H Q := .inr (.inl ⟨p, xs, i, v, rfl, rfl, h, a, k⟩)
/-! tests -/
theorem w_test (k : te σ H fun x H' => IsBl x fun k => QT k H') : tTest te σ H QT := k
theorem w_isbl {R : Bool → Prop} (k : R b) : IsBl (.bl b) R := ⟨b, rfl, k⟩
theorem w_B (k : te σ H fun x H' => IsBl x fun k => QT k H') : tB te σ H QT := k
theorem w_and (k : tt σ H fun c H1 => if c = true then tu σ H1 QT else QT false H1) : tAnd tt tu σ H QT := k
theorem w_or (k : tt σ H fun c H1 => if c = true then QT true H1 else tu σ H1 QT) : tOr tt tu σ H QT := k
theorem w_not (k : tt σ H fun c H1 => QT (!c) H1) : tNot tt σ H QT := k
theorem w_ife (k : tt σ H fun c H1 => if c = true then ta σ H1 Q else tb σ H1 Q) : tIf tt ta tb σ H Q := k
theorem w_andV (k : ta σ H fun x H1 => IsBl x fun c => if c = true then tb σ H1 Q else Q (.bl false) H1) : tAndV ta tb σ H Q := k
theorem w_orV (k : ta σ H fun x H1 => IsBl x fun c => if c = true then Q (.bl true) H1 else tb σ H1 Q) : tOrV ta tb σ H Q := k
theorem w_notV (k : ta σ H fun x H1 => IsBl x fun c => Q (.bl (!c)) H1) : tNotV ta σ H Q := k
theorem w_if {c A B : Prop} [Decidable c] (h1 : c → A) (h2 : ¬ c → B) : if decide c = true then A else B := by
  by_cases h : c
  · rw [decide_eq_true h]; exact h1 h
  · rw [decide_eq_false h]; exact h2 h
theorem w_ifn {c A B : Prop} [Decidable c] (h1 : ¬ c → A) (h2 : c → B) : if (!decide c) = true then A else B := by
  by_cases h : c
  · rw [decide_eq_true h]; exact h2 h
  · rw [decide_eq_false h]; exact h1 h
theorem w_ifnn {c A B : Prop} [Decidable c] (h1 : c → A) (h2 : ¬ c → B) : if (!!decide c) = true then A else B := by
  by_cases h : c
  · rw [decide_eq_true h]; exact h1 h
  · rw [decide_eq_false h]; exact h2 h
theorem w_ifY {c A B : Prop} [Decidable c] (h : c) (k : A) : if decide c = true then A else B := by rw [decide_eq_true h]; exact k
theorem w_ifZ {c A B : Prop} [Decidable c] (h : ¬ c) (k : B) : if decide c = true then A else B := by rw [decide_eq_false h]; exact k
theorem w_ifnY {c A B : Prop} [Decidable c] (h : c) (k : B) : if (!decide c) = true then A else B := by rw [decide_eq_true h]; exact k
theorem w_ifnZ {c A B : Prop} [Decidable c] (h : ¬ c) (k : A) : if (!decide c) = true then A else B := by rw [decide_eq_false h]; exact k
theorem w_intY {c : Prop} [Decidable c] (h : c) (k : Q (.int 1) H) : gIntC [.bl (decide c)] H Q := by rw [decide_eq_true h]; exact .inr ⟨true, rfl, k⟩
theorem w_intZ {c : Prop} [Decidable c] (h : ¬ c) (k : Q (.int 0) H) : gIntC [.bl (decide c)] H Q := by rw [decide_eq_false h]; exact .inr ⟨false, rfl, k⟩
theorem w_ifT {A B : Prop} (h : A) : if true = true then A else B := h
theorem w_ifF {A B : Prop} (h : B) : if false = true then A else B := h
theorem w_ifNT {A B : Prop} (h : B) : if (!true) = true then A else B := h
theorem w_ifNF {A B : Prop} (h : A) : if (!false) = true then A else B := h
/-! statements -/
theorem w_seq {n c d : L2.St → Hp → Prop} {r : VK} (k : t1 (En (t2 (En n r c d)) r c d) σ H) : tSeq t1 t2 (En n r c d) σ H := k
theorem w_asg {n : Nat} (k : te σ H fun x H1 => NX D (σ.set n (some x)) H1) : tAsg te (gName n) D σ H := k
theorem w_asgG {g : TG} (k : te σ H fun x H1 => g x σ H1 (NX D)) : tAsg te g D σ H := k
def Par (n m : Nat) (D : Ends) (σ : L2.St) (vs : List V) (H : Hp) : Prop := ∃ v w, vs = [v, w] ∧ D.nx ((σ.set n (some v)).set m (some w)) H
theorem w_par {n m : Nat} {t : TA} (k : t σ H fun vs H1 => Par n m D σ vs H1) : tPar n m t D σ H := k
theorem w_parE {n m : Nat} (k : NX D ((σ.set n (some x)).set m (some y)) H) : Par n m D σ [x, y] H := ⟨x, y, rfl, k⟩
def Par3 (n m l : Nat) (D : Ends) (σ : L2.St) (vs : List V) (H : Hp) : Prop := ∃ u v w, vs = [u, v, w] ∧ D.nx (((σ.set n (some u)).set m (some v)).set l (some w)) H
theorem w_par3 {n m l : Nat} {t : TA} (k : t σ H fun vs H1 => Par3 n m l D σ vs H1) : tPar3 n m l t D σ H := k
theorem w_par3E {n m l : Nat} {z : V} (k : NX D (((σ.set n (some x)).set m (some y)).set l (some z)) H) : Par3 n m l D σ [x, y, z] H := ⟨x, y, z, rfl, k⟩
theorem w_aug {n : Nat} {ti : TIp} (h : σ[n]? = some (some x)) (k : te σ H fun y H1 => ti x y H1 fun z H2 => NX D (σ.set n (some z)) H2) : tAug n te ti D σ H := ⟨x, h, k⟩
theorem w_ret (k : te σ H fun v H1 => RT D v H1) : tRet te D σ H := k
theorem w_drop (k : te σ H fun _ H1 => NX D σ H1) : tDrop te D σ H := k
theorem w_ifs (k : tt σ H fun b H1 => if b = true then t1 D σ H1 else t2 D σ H1) : tIfS tt t1 t2 D σ H := k
theorem w_next (k : NX D σ H) : tNext D σ H := k
theorem w_nx {n c d : L2.St → Hp → Prop} {r : VK} (k : n σ H) : NX (En n r c d) σ H := k
theorem w_rt {n c d : L2.St → Hp → Prop} {r : VK} (k : r v H) : RT (En n r c d) v H := k
theorem w_start {n : L2.St → Hp → Prop} {r : VK} {t : TS} (k : t (En n r (fun _ _ => False) (fun _ _ => False)) σ H) : t { nx := n, rt := r } σ H := k
theorem w_gname {n : Nat} {R : L2.St → Hp → Prop} (k : R (σ.set n (some v)) H) : gName n v σ H R := k
theorem w_gnil {R : L2.St → Hp → Prop} (k : R σ H) : gNil [] σ H R := ⟨rfl, k⟩
theorem w_gcons {g : TG} {u : TGs} {r : List V} {R : L2.St → Hp → Prop} (k : g v σ H fun σ' H' => u r σ' H' R) : gCons g u (v :: r) σ H R := ⟨v, r, rfl, k⟩
theorem w_gtup {a : Addr} {xs : List V} {n : Nat} {u : TGs} {R : L2.St → Hp → Prop} (h : SqT K H a xs) (l : xs.length = n) (k : u xs σ H R) : gTup2 K n u (.ref a) σ H R := ⟨a, xs, rfl, h, l, k⟩
theorem w_gsub {to ti : TE} {t : TSet} {R : L2.St → Hp → Prop} (k : to σ H fun o H1 => ti σ H1 fun i H2 => t o i v H2 fun H3 => R σ H3) : gSub to ti t v σ H R := k
theorem w_setL {l : Addr} {xs : List V} {n : Nat} {R : Hp → Prop} (h : H l = some (.lst xs)) (e : ixN xs.length i = some n) (k : ∀ H', Kp l H H' → H' l = some (.lst (xs.set n v)) → R H') : rSetL (.ref l) (.int i) v H R :=
  ⟨l, xs, i, n, rfl, rfl, h, e, k _ kp_upd upd_same⟩
theorem w_bm {T : String} {r : V → List V → Hp → VK → Prop} {to : TE} {t : TA} (k : to σ H fun x H1 => BmE K T x H1 (t σ H1 fun xs H2 => r x xs H2 Q)) : tBM K T r to t σ H Q := k
theorem w_bmL {l : Addr} {xs : List V} {R : Prop} (h : H l = some (.lst xs)) (k : R) : BmE K "list" (.ref l) H R := ⟨.inl ⟨rfl, xs, Or.inl (Or.inl h)⟩, k⟩
theorem w_app {l : Addr} {xs : List V} (h : H l = some (.lst xs)) (z : xs.length < sizeLine) (k : ∀ H', Kp l H H' → H' l = some (.lst (xs ++ [v])) → Q .non H') : rAppend (.ref l) [v] H Q :=
  ⟨l, xs, v, rfl, rfl, h, z, k _ kp_upd upd_same⟩
theorem ty_list {l : Addr} {xs : List V} (h : H l = some (.lst xs)) : tyV K "list" (.ref l) H := .inl ⟨rfl, xs, sq_of h⟩
theorem w_slL {a : Addr} {xs : List V} {lo hi : Option Int} (h : SqL K H a xs) (k : ∀ p H', H p = none → Sm H H' → H' p = some (.lst (cutV xs lo hi)) → Q (.ref p) H') : gSl K (.ref a) lo hi H Q := .inl ⟨a, xs, rfl, h, fun p hp => k p _ hp (sm_new hp) upd_same⟩
theorem cut_whole {xs : List V} {lo hi : Option Int} (h : HT.sIx xs.length 0 lo = 0 ∧ HT.sIx xs.length xs.length hi = xs.length) : cutV xs lo hi = xs := by
  unfold cutV
  rw [h.1, h.2, List.drop_zero, Nat.sub_zero, List.take_length]
theorem w_slT {a : Addr} {xs : List V} {lo hi : Option Int} (h : H a = some (.tup xs)) (k : ∀ p H', Sm H H' → H' p = some (.tup (cutV xs lo hi)) → Q (.ref p) H') : gSl K (.ref a) lo hi H Q :=
  .inr ⟨a, xs, rfl, st_of h, fun w => k a H (Same.refl _) (by rw [cut_whole w]; exact h), fun _ p hp => k p _ (sm_new hp) upd_same⟩
theorem w_catT {a b : Addr} {xs ys : List V} (h1 : H a = some (.tup xs)) (h2 : H b = some (.tup ys)) (z : xs.length + ys.length ≤ sizeLine) (k : ∀ p H', Sm H H' → H' p = some (.tup (xs ++ ys)) → Q (.ref p) H') : gAdd K (.ref a) (.ref b) H Q :=
  .inr (.inr (.inr ⟨a, b, xs, ys, rfl, rfl, st_of h1, st_of h2, z, fun e => k b H (Same.refl _) (by rw [e]; exact h2), fun _ e => k a H (Same.refl _) (by rw [e, List.append_nil]; exact h1), fun _ _ p hp => k p _ (sm_new hp) upd_same⟩))
theorem w_sl {r : V → Option Int → Option Int → Hp → VK → Prop} {tl th : TO} (k : te σ H fun x H1 => tl σ H1 fun l H2 => th σ H2 fun u H3 => r x l u H3 Q) : tSl r te tl th σ H Q := k
theorem w_po0 {R : Option Int → Hp → Prop} (k : R none H) : tNoPart σ H R := k
theorem w_po1 {R : Option Int → Hp → Prop} (k : te σ H fun x H1 => PartE R x H1) : tPart te σ H R := k
theorem w_poE {R : Option Int → Hp → Prop} (k : R (some i) H) : PartE R (.int i) H := ⟨i, rfl, k⟩
theorem w_clear {l : Addr} {xs : List V} (h : H l = some (.lst xs)) (k : ∀ H', Kp l H H' → H' l = some (.lst []) → Q .non H') : tyV K "list" (.ref l) H ∧ rClear (.ref l) [] H Q :=
  ⟨ty_list h, l, xs, rfl, rfl, h, k _ kp_upd upd_same⟩
end
/-! a field read inside a comprehension: the context's K is named -/
theorem pe_fldK {X : Cx} {K : PySem.W.Frag} (hK : X.K = K) {e : Expr} {f : Str} {pos : Pos} {ta : TE} (he : PE X e ta) (hb : attributeBase e f X.env (eval e X.env) = eval e X.env) : PE X (.Attribute e f pos) (tFld K ta f) := by
  rw [← hK]
  exact pe_fld he hb
end Rs
namespace Rs
open PySem L2 PyProof.Rows PySem.NumText
/-! ### the walk's own words -/
local macro_rules | `(tactic| tm_at "rlk") => `(tactic| first | with_reducible assumption | ((refine' g_lk ?sg ?sh); (case sg => with_reducible assumption); (case sh => tm_at "rlk0")) | fail "no")
local macro_rules | `(tactic| tm_at "rlk0") => `(tactic| first | with_reducible assumption | (refine' Same.get ?sa ?sb; (case sa => with_reducible assumption); (case sb => tm_at "rlk0")) | (refine' Kp.get ?sa ?sc ?sb; (case sa => with_reducible assumption); (case sc => tm_at "rne"); (case sb => tm_at "rlk0")) | fail "no")
local macro_rules | `(tactic| tm_at "rne") => `(tactic| first | with_reducible assumption | (apply Ne.symm; assumption) | (refine' ne_new ?sa ?sb; (case sa => with_reducible assumption); (case sb => tm_at "rlk")) | (refine' ne_new2 ?sa ?sb; (case sa => with_reducible assumption); (case sb => tm_at "rlk")) | fail "no")
local macro_rules | `(tactic| tm_at "rsf") => `(tactic| first | with_reducible assumption | ((refine' g_sqf ?sg ?sh); (case sg => with_reducible assumption); (case sh => tm_at "rsf0")) | fail "no")
local macro_rules | `(tactic| tm_at "rsf0") => `(tactic| first | with_reducible assumption | ((refine' SqF.sm ?sa ?sb); (case sb => with_reducible assumption); (case sa => tm_at "rsf0")) | ((refine' SqF.kp ?sa ?sc ?sb); (case sb => with_reducible assumption); (case sc => tm_at "rlk"); (case sa => tm_at "rsf0")) | fail "no")
local macro_rules | `(tactic| tm_at "rsq") => `(tactic| first | with_reducible assumption | ((refine' SqF.sq ?sz); (case sz => tm_at "rsf")) | ((refine' sq_of ?sz); (case sz => tm_at "rlk")) | (refine' sm_sq ?sa ?sb; (case sa => with_reducible assumption); (case sb => tm_at "rsq")) | (refine' kp_sq ?sa ?sc ?sb; (case sa => with_reducible assumption); (case sc => tm_at "rne"); (case sb => tm_at "rsq")) | fail "no")
local macro_rules | `(tactic| tm_at "rst") => `(tactic| first | with_reducible assumption | ((refine' st_of ?sz); (case sz => tm_at "rlk")) | fail "no")
local macro_rules | `(tactic| tm_at "rat") => `(tactic| first | with_reducible assumption | exact atI_nat (j := 0) rfl | exact atI_nat (j := 1) rfl | exact atI_nat (j := 2) rfl | exact atI_nat (j := 3) rfl | exact atI_nat (j := 4) rfl | exact atI_nat (j := 5) rfl | fail "no")
local macro_rules | `(tactic| tm_at "rsz") => `(tactic| first | with_reducible assumption | exact sz_of (Nat.le_of_ble_eq_true rfl) | (apply sz_of; omega) | ((refine sz_of (Nat.le_trans (Nat.add_le_add_left (cutV_length _ _ _) _) ?_)); omega) | ((refine sz_of (Nat.le_trans (Nat.add_le_add_left (cutV_length _ _ _) _) ?_)); (simp only [List.length_cons, List.length_nil, List.length_append]); omega) | (apply sz_lt; omega) | ((apply sz_of); (simp only [List.length_cons, List.length_nil, List.length_append]); omega) | ((apply sz_lt); (simp only [List.length_cons, List.length_nil, List.length_append]); omega) | ((apply sz_of); (simp only [List.length_cons, List.length_nil, List.length_append, List.length_take, List.length_drop, List.length_map, List.length_replicate, List.length_set]); omega) | ((apply sz_lt); (simp only [List.length_cons, List.length_nil, List.length_append, List.length_take, List.length_drop, List.length_map, List.length_replicate, List.length_set]); omega) | decide | fail "no")
local macro_rules | `(tactic| tm_at "rc") => `(tactic| first | with_reducible assumption | exact .inl (.inl (by decide)) | exact .inl (.inr (by decide)) | exact .inl (.inl ⟨by omega, by omega⟩) | exact .inl (.inr ⟨by omega, by omega⟩) | fail "no")
local macro_rules | `(tactic| tm_at "rfr") => `(tactic| first | with_reducible assumption | ((refine' g_fr ?sg ?sh); (case sg => with_reducible assumption); (case sh => tm_at "rfr0")) | fail "no")
local macro_rules | `(tactic| tm_at "rfr0") => `(tactic| first | with_reducible assumption | ((refine' Same.free ?sa ?sb); (case sa => with_reducible assumption); (case sb => tm_at "rfr0")) | ((refine' kp_free ?sa ?sc ?sb); (case sa => with_reducible assumption); (case sb => tm_at "rfr0"); (case sc => tm_at "rne")) | fail "no")
local macro_rules | `(tactic| tm_at "rsm") => `(tactic| first | with_reducible assumption | exact Same.refl _ | ((refine' Same.trans ?sa ?sb); (case sb => with_reducible assumption); (case sa => tm_at "rsm")) | ((refine' sm_mut ?sa ?sc ?sb); (case sb => with_reducible assumption); (case sc => tm_at "rfr"); (case sa => tm_at "rsm")) | fail "no")
local macro_rules | `(tactic| tm_at "rkp") => `(tactic| first | with_reducible assumption | exact Kp.refl _ | ((refine' Kp.trans ?sa ?sb); (case sb => first | with_reducible assumption | exact Kp.of (by with_reducible assumption)); (case sa => tm_at "rkp")) | ((refine' kp_mut ?sa ?sc ?sb); (case sb => with_reducible assumption); (case sc => tm_at "rfr"); (case sa => tm_at "rkp")) | fail "no")
local macro_rules | `(tactic| tm_at "rs") => `(tactic| first | ((with_reducible refine w_iR2e ?h ?_); (case h => (refine ⟨?_, ?_, ?_, ?_⟩ <;> omega))) | fail "no")
local macro_rules | `(tactic| tm_at "rs") => `(tactic| first | ((with_reducible refine w_iR1e ?h ?i ?_); (case h => omega); (case i => omega)) | fail "no")
local macro_rules | `(tactic| tm_at "rs") => `(tactic| first | ((with_reducible refine' w_iTe ?h ?k); (case h => tm_at "rst")) | fail "no")
local macro_rules | `(tactic| tm_at "rs") => `(tactic| first | ((with_reducible refine' w_iLe ?h ?k); (case h => tm_at "rsq")) | fail "no")
local macro_rules | `(tactic| tm_at "rs") => `(tactic| first | ((with_reducible refine' w_clear ?h (fun _ _ _ => ?k)); (case h => tm_at "rlk")) | fail "no")
local macro_rules | `(tactic| tm_at "rs") => `(tactic| first | ((with_reducible refine' w_isiTup ?h ?k); (case h => tm_at "rlk")) | fail "no")
local macro_rules | `(tactic| tm_at "rs") => `(tactic| first | ((with_reducible refine' w_niS2 ?h ?k); (case h => tm_at "rst")) | fail "no")
local macro_rules | `(tactic| tm_at "rs") => `(tactic| first | ((with_reducible refine' w_inS2 ?h ?k); (case h => tm_at "rst")) | fail "no")
local macro_rules | `(tactic| tm_at "rs") => `(tactic| first | ((with_reducible refine' w_catT ?h ?i ?z (fun _ _ _ _ => ?k)); (case h => tm_at "rlk"); (case i => tm_at "rlk"); (case z => tm_at "rsz")) | fail "no")
local macro_rules | `(tactic| tm_at "rs") => `(tactic| first | ((with_reducible refine' w_addL ?h ?i ?z (fun _ _ _ _ _ => ?k)); (case h => tm_at "rlk"); (case i => tm_at "rlk"); (case z => tm_at "rsz")) | fail "no")
local macro_rules | `(tactic| tm_at "rs") => `(tactic| first | ((with_reducible refine' w_slT ?h (fun _ _ _ _ => ?k)); (case h => tm_at "rlk")) | fail "no")
local macro_rules | `(tactic| tm_at "rs") => `(tactic| first | ((with_reducible refine' w_slL ?h (fun _ _ _ _ _ => ?k)); (case h => tm_at "rsq")) | fail "no")
local macro_rules | `(tactic| tm_at "rs") => `(tactic| first | ((with_reducible refine' w_app ?h ?z (fun _ _ _ => ?k)); (case h => tm_at "rlk"); (case z => tm_at "rsz")) | fail "no")
local macro_rules | `(tactic| tm_at "rs") => `(tactic| first | ((with_reducible refine' w_bmL ?h ?k); (case h => tm_at "rlk")) | fail "no")
local macro_rules | `(tactic| tm_at "rs") => `(tactic| first | ((with_reducible refine' w_setL ?h ?e (fun _ _ _ => ?k)); (case h => tm_at "rlk"); (case e => rfl)) | fail "no")
local macro_rules | `(tactic| tm_at "rs") => `(tactic| first | with_reducible refine w_ifnn (fun _ => ?_) (fun _ => ?_) | fail "no")
local macro_rules | `(tactic| tm_at "rs") => `(tactic| first | with_reducible refine w_ifn (fun _ => ?_) (fun _ => ?_) | fail "no")
local macro_rules | `(tactic| tm_at "rs") => `(tactic| first | with_reducible refine w_if (fun _ => ?_) (fun _ => ?_) | fail "no")
local macro_rules | `(tactic| tm_at "rs") => `(tactic| first | ((with_reducible refine w_ifnZ ?h ?_); (case h => decide +kernel)) | fail "no")
local macro_rules | `(tactic| tm_at "rs") => `(tactic| first | ((with_reducible refine w_ifnY ?h ?_); (case h => decide +kernel)) | fail "no")
local macro_rules | `(tactic| tm_at "rs") => `(tactic| first | ((with_reducible refine w_ifZ ?h ?_); (case h => decide +kernel)) | fail "no")
local macro_rules | `(tactic| tm_at "rs") => `(tactic| first | ((with_reducible refine w_ifY ?h ?_); (case h => decide +kernel)) | fail "no")
local macro_rules | `(tactic| tm_at "rs") => `(tactic| first | ((with_reducible refine' w_lcEnd ?h ?z (fun _ _ _ => ?k)); (case h => tm_at "rlk"); (case z => tm_at "rsz")) | fail "no")
local macro_rules | `(tactic| tm_at "rs") => `(tactic| first | ((with_reducible refine w_lcGo ?h ?_); (case h => rfl)) | fail "no")
local macro_rules | `(tactic| tm_at "rs") => `(tactic| first | with_reducible refine w_yes ?_ | fail "no")
local macro_rules | `(tactic| tm_at "rs") => `(tactic| first | with_reducible refine w_lc ?_ | fail "no")
local macro_rules | `(tactic| tm_at "rs") => `(tactic| first | ((with_reducible refine' w_all ?h ?k); (case h => tm_at "rsq")) | fail "no")
local macro_rules | `(tactic| tm_at "rs") => `(tactic| first | ((with_reducible refine' w_sum ?h ?k); (case h => tm_at "rsq")) | fail "no")
local macro_rules | `(tactic| tm_at "rs") => `(tactic| first | ((with_reducible refine' w_ix8I ?h ?a ?b (fun _ _ => ?k)); (case h => tm_at "rsq"); (case a => omega); (case b => omega)) | fail "no")
local macro_rules | `(tactic| tm_at "rs") => `(tactic| first | ((with_reducible refine' w_ix7I ?h ?a ?b (fun _ _ => ?k)); (case h => tm_at "rsq"); (case a => omega); (case b => omega)) | fail "no")
local macro_rules | `(tactic| tm_at "rs") => `(tactic| first | ((with_reducible refine' w_ix6I ?h ?a ?b (fun _ _ => ?k)); (case h => tm_at "rsq"); (case a => omega); (case b => omega)) | fail "no")
local macro_rules | `(tactic| tm_at "rs") => `(tactic| first | ((with_reducible refine' w_ix5I ?h ?a ?b (fun _ _ => ?k)); (case h => tm_at "rsq"); (case a => omega); (case b => omega)) | fail "no")
local macro_rules | `(tactic| tm_at "rs") => `(tactic| first | ((with_reducible refine' w_ix4I ?h ?a ?b (fun _ _ => ?k)); (case h => tm_at "rsq"); (case a => omega); (case b => omega)) | fail "no")
local macro_rules | `(tactic| tm_at "rs") => `(tactic| first | ((with_reducible refine' w_ix3I ?h ?a ?b (fun _ _ => ?k)); (case h => tm_at "rsq"); (case a => omega); (case b => omega)) | fail "no")
local macro_rules | `(tactic| tm_at "rs") => `(tactic| first | ((with_reducible refine' w_ix2I ?h ?a ?b (fun _ _ => ?k)); (case h => tm_at "rsq"); (case a => omega); (case b => omega)) | fail "no")
local macro_rules | `(tactic| tm_at "rs") => `(tactic| first | ((with_reducible refine w_newT ?h (fun _ _ _ _ _ => ?_)); (case h => exact sz_of (Nat.le_of_ble_eq_true rfl))) | fail "no")
local macro_rules | `(tactic| tm_at "rs") => `(tactic| first | ((with_reducible refine w_newL ?h (fun _ _ _ _ _ => ?_)); (case h => exact sz_of (Nat.le_of_ble_eq_true rfl))) | fail "no")
local macro_rules | `(tactic| tm_at "rs") => `(tactic| first | ((with_reducible refine' w_ixT ?h ?a ?k); (case h => tm_at "rst"); (case a => tm_at "rat")) | fail "no")
local macro_rules | `(tactic| tm_at "rs") => `(tactic| first | ((with_reducible refine' w_ixL ?h ?a ?k); (case h => tm_at "rsq"); (case a => tm_at "rat")) | fail "no")
local macro_rules | `(tactic| tm_at "rs") => `(tactic| first | ((with_reducible refine' w_lenT ?h ?k); (case h => tm_at "rst")) | fail "no")
local macro_rules | `(tactic| tm_at "rs") => `(tactic| first | ((with_reducible refine' w_lenL ?h ?k); (case h => tm_at "rsq")) | fail "no")
local macro_rules | `(tactic| tm_at "rs") => `(tactic| first | with_reducible refine w_intB (fun _ => ?_) (fun _ => ?_) | fail "no")
local macro_rules | `(tactic| tm_at "rs") => `(tactic| first | with_reducible refine w_intDn (fun _ => ?_) (fun _ => ?_) | fail "no")
local macro_rules | `(tactic| tm_at "rs") => `(tactic| first | with_reducible refine w_intD (fun _ => ?_) (fun _ => ?_) | fail "no")
local macro_rules | `(tactic| tm_at "rs") => `(tactic| first | ((with_reducible refine w_intZ ?h ?_); (case h => decide +kernel)) | fail "no")
local macro_rules | `(tactic| tm_at "rs") => `(tactic| first | ((with_reducible refine w_intY ?h ?_); (case h => decide +kernel)) | fail "no")
local macro_rules | `(tactic| tm_at "rs") => `(tactic| first | ((with_reducible refine w_shrI ?h ?_); (case h => (first | decide | omega))) | fail "no")
local macro_rules | `(tactic| tm_at "rs") => `(tactic| first | ((with_reducible refine w_powI ?h ?_); (case h => exact ⟨by decide, by decide, by decide +kernel⟩)) | fail "no")
local macro_rules | `(tactic| tm_at "rs") => `(tactic| first | ((with_reducible refine w_mulI ?h ?_); (case h => tm_at "rc")) | fail "no")
local macro_rules | `(tactic| tm_at "rs") => `(tactic| first | ((with_reducible refine w_divI ?h ?_); (case h => (first | assumption | exact ⟨by decide, by decide +kernel⟩ | exact ⟨by assumption, by assumption⟩))) | fail "no")
local macro_rules | `(tactic| tm_at "rs") => `(tactic| first | ((with_reducible refine w_modF ?h (fun _ _ _ _ _ => ?_)); (case h => omega)) | fail "no")
local macro_rules | `(tactic| tm_at "rs") => `(tactic| first | ((with_reducible refine w_modI ?h ?_); (case h => decide)) | fail "no")
local macro_rules | `(tactic| tm_at "rs") => `(tactic| first | ((with_reducible refine w_shlI ?h ?_); (case h => first | assumption | exact ⟨by decide, by decide⟩)) | fail "no")
local macro_rules | `(tactic| tm_at "rs") => `(tactic| first | with_reducible refine w_bitsE (fun _ _ _ => ?_) | fail "no")
local macro_rules | `(tactic| tm_at "rs") => `(tactic| first | with_reducible refine w_bits ?_ | fail "no")
local macro_rules | `(tactic| tm_at "rs") => `(tactic| first | ((with_reducible refine w_shl1F ?h ?i (fun _ _ _ _ _ _ => ?_)); (case h => omega); (case i => omega)) | fail "no")
local macro_rules | `(tactic| tm_at "rs") => `(tactic| first | ((with_reducible refine w_imulI ?h ?_); (case h => tm_at "rc")) | fail "no")
local macro_rules | `(tactic| tm_at "rs") => `(tactic| first | ((with_reducible refine' w_gtup ?h ?l ?k); (case h => tm_at "rst"); (case l => rfl)) | fail "no")
local macro_rules | `(tactic| tm_at "rs") => `(tactic| first | with_reducible refine w_gcons ?_ | fail "no")
local macro_rules | `(tactic| tm_at "rs") => `(tactic| first | with_reducible refine w_gnil ?_ | fail "no")
local macro_rules | `(tactic| tm_at "rs") => `(tactic| first | with_reducible refine w_gname ?_ | fail "no")
local macro_rules | `(tactic| tm_at "rs") => `(tactic| first | with_reducible refine w_isiSs ?_ | fail "no")
local macro_rules | `(tactic| tm_at "rs") => `(tactic| first | with_reducible refine w_isiBb ?_ | fail "no")
local macro_rules | `(tactic| tm_at "rs") => `(tactic| first | with_reducible refine w_isiIi ?_ | fail "no")
local macro_rules | `(tactic| tm_at "rs") => `(tactic| first | with_reducible refine w_isiIb ?_ | fail "no")
local macro_rules | `(tactic| tm_at "rs") => `(tactic| first | with_reducible refine w_xorI ?_ | fail "no")
local macro_rules | `(tactic| tm_at "rs") => `(tactic| first | with_reducible refine w_iaddI ?_ | fail "no")
local macro_rules | `(tactic| tm_at "rs") => `(tactic| first | with_reducible refine w_shr1 ?_ | fail "no")
local macro_rules | `(tactic| tm_at "rs") => `(tactic| first | with_reducible refine w_wt ?_ | fail "no")
local macro_rules | `(tactic| tm_at "rs") => `(tactic| first | ((with_reducible refine' w_aug ?h ?k); (case h => rfl)) | fail "no")
local macro_rules | `(tactic| tm_at "rs") => `(tactic| first | with_reducible refine w_sp ?_ | fail "no")
local macro_rules | `(tactic| tm_at "rs") => `(tactic| first | with_reducible refine w_iT ?_ | fail "no")
local macro_rules | `(tactic| tm_at "rs") => `(tactic| first | with_reducible refine w_iL ?_ | fail "no")
local macro_rules | `(tactic| tm_at "rs") => `(tactic| first | with_reducible refine w_iR2 ?_ | fail "no")
local macro_rules | `(tactic| tm_at "rs") => `(tactic| first | with_reducible refine w_iR1 ?_ | fail "no")
local macro_rules | `(tactic| tm_at "rs") => `(tactic| first | with_reducible refine w_for ?_ | fail "no")
local macro_rules | `(tactic| tm_at "rs") => `(tactic| first | with_reducible refine w_poE ?_ | fail "no")
local macro_rules | `(tactic| tm_at "rs") => `(tactic| first | with_reducible refine w_po1 ?_ | fail "no")
local macro_rules | `(tactic| tm_at "rs") => `(tactic| first | with_reducible refine w_po0 ?_ | fail "no")
local macro_rules | `(tactic| tm_at "rs") => `(tactic| first | with_reducible refine w_sl ?_ | fail "no")
local macro_rules | `(tactic| tm_at "rs") => `(tactic| first | with_reducible refine w_bm ?_ | fail "no")
local macro_rules | `(tactic| tm_at "rs") => `(tactic| first | with_reducible refine w_gsub ?_ | fail "no")
local macro_rules | `(tactic| tm_at "rs") => `(tactic| first | with_reducible refine w_asgG ?_ | fail "no")
local macro_rules | `(tactic| tm_at "rs") => `(tactic| first | with_reducible refine w_par3E ?_ | fail "no")
local macro_rules | `(tactic| tm_at "rs") => `(tactic| first | with_reducible refine w_par3 ?_ | fail "no")
local macro_rules | `(tactic| tm_at "rs") => `(tactic| first | with_reducible refine w_parE ?_ | fail "no")
local macro_rules | `(tactic| tm_at "rs") => `(tactic| first | with_reducible refine w_par ?_ | fail "no")
local macro_rules | `(tactic| tm_at "rs") => `(tactic| first | with_reducible refine w_drop ?_ | fail "no")
local macro_rules | `(tactic| tm_at "rs") => `(tactic| first | with_reducible refine w_next ?_ | fail "no")
local macro_rules | `(tactic| tm_at "rs") => `(tactic| first | with_reducible refine w_B ?_ | fail "no")
local macro_rules | `(tactic| tm_at "rs") => `(tactic| first | with_reducible refine w_notV ?_ | fail "no")
local macro_rules | `(tactic| tm_at "rs") => `(tactic| first | with_reducible refine w_orV ?_ | fail "no")
local macro_rules | `(tactic| tm_at "rs") => `(tactic| first | with_reducible refine w_andV ?_ | fail "no")
local macro_rules | `(tactic| tm_at "rs") => `(tactic| first | with_reducible refine w_ife ?_ | fail "no")
local macro_rules | `(tactic| tm_at "rs") => `(tactic| first | with_reducible refine w_not ?_ | fail "no")
local macro_rules | `(tactic| tm_at "rs") => `(tactic| first | with_reducible refine w_and ?_ | fail "no")
local macro_rules | `(tactic| tm_at "rs") => `(tactic| first | with_reducible refine w_or ?_ | fail "no")
local macro_rules | `(tactic| tm_at "rs") => `(tactic| first | with_reducible refine w_ifF ?_ | fail "no")
local macro_rules | `(tactic| tm_at "rs") => `(tactic| first | with_reducible refine w_ifNF ?_ | fail "no")
local macro_rules | `(tactic| tm_at "rs") => `(tactic| first | with_reducible refine w_ifNT ?_ | fail "no")
local macro_rules | `(tactic| tm_at "rs") => `(tactic| first | with_reducible refine w_ifT ?_ | fail "no")
local macro_rules | `(tactic| tm_at "rs") => `(tactic| first | with_reducible refine w_tup ?_ | fail "no")
local macro_rules | `(tactic| tm_at "rs") => `(tactic| first | with_reducible refine w_lst ?_ | fail "no")
local macro_rules | `(tactic| tm_at "rs") => `(tactic| first | with_reducible refine w_intI ?_ | fail "no")
local macro_rules | `(tactic| tm_at "rs") => `(tactic| first | with_reducible refine w_min ?_ | fail "no")
local macro_rules | `(tactic| tm_at "rs") => `(tactic| first | with_reducible refine w_max ?_ | fail "no")
local macro_rules | `(tactic| tm_at "rs") => `(tactic| first | with_reducible refine w_neS ?_ | fail "no")
local macro_rules | `(tactic| tm_at "rs") => `(tactic| first | with_reducible refine w_eqS ?_ | fail "no")
local macro_rules | `(tactic| tm_at "rs") => `(tactic| first | ((with_reducible refine w_orF ?h ?i (fun _ _ _ _ => ?_)); (case h => omega); (case i => omega)) | fail "no")
local macro_rules | `(tactic| tm_at "rs") => `(tactic| first | with_reducible refine w_neB ?_ | fail "no")
local macro_rules | `(tactic| tm_at "rs") => `(tactic| first | with_reducible refine w_eqB ?_ | fail "no")
local macro_rules | `(tactic| tm_at "rs") => `(tactic| first | with_reducible refine w_notBT ?_ | fail "no")
local macro_rules | `(tactic| tm_at "rs") => `(tactic| first | with_reducible refine w_isBT ?_ | fail "no")
local macro_rules | `(tactic| tm_at "rs") => `(tactic| first | ((with_reducible refine w_notNx ?h ?_); (case h => (intro e; cases e))) | fail "no")
local macro_rules | `(tactic| tm_at "rs") => `(tactic| first | ((with_reducible refine w_isNx ?h ?_); (case h => (intro e; cases e))) | fail "no")
local macro_rules | `(tactic| tm_at "rs") => `(tactic| first | with_reducible refine w_notN0 ?_ | fail "no")
local macro_rules | `(tactic| tm_at "rs") => `(tactic| first | with_reducible refine w_isN0 ?_ | fail "no")
local macro_rules | `(tactic| tm_at "rs") => `(tactic| first | with_reducible refine w_neI ?_ | fail "no")
local macro_rules | `(tactic| tm_at "rs") => `(tactic| first | with_reducible refine w_eqI ?_ | fail "no")
local macro_rules | `(tactic| tm_at "rs") => `(tactic| first | with_reducible refine w_geI ?_ | fail "no")
local macro_rules | `(tactic| tm_at "rs") => `(tactic| first | with_reducible refine w_gtI ?_ | fail "no")
local macro_rules | `(tactic| tm_at "rs") => `(tactic| first | with_reducible refine w_leI ?_ | fail "no")
local macro_rules | `(tactic| tm_at "rs") => `(tactic| first | with_reducible refine w_ltI ?_ | fail "no")
local macro_rules | `(tactic| tm_at "rs") => `(tactic| first | with_reducible refine w_andI ?_ | fail "no")
local macro_rules | `(tactic| tm_at "rs") => `(tactic| first | ((with_reducible refine w_andF ?h ?i (fun _ _ _ _ _ => ?_)); (case h => omega); (case i => omega)) | fail "no")
local macro_rules | `(tactic| tm_at "rs") => `(tactic| first | with_reducible refine w_I0 ?_ | fail "no")
local macro_rules | `(tactic| tm_at "rs") => `(tactic| first | with_reducible refine w_addI ?_ | fail "no")
local macro_rules | `(tactic| tm_at "rs") => `(tactic| first | with_reducible refine w_isbl ?_ | fail "no")
local macro_rules | `(tactic| tm_at "rs") => `(tactic| first | with_reducible refine w_test ?_ | fail "no")
local macro_rules | `(tactic| tm_at "rs") => `(tactic| first | with_reducible refine w_callK ?_ | fail "no")
local macro_rules | `(tactic| tm_at "rs") => `(tactic| first | with_reducible refine w_call ?_ | fail "no")
local macro_rules | `(tactic| tm_at "rs") => `(tactic| first | with_reducible refine w_ifs ?_ | fail "no")
local macro_rules | `(tactic| tm_at "rs") => `(tactic| first | with_reducible refine w_ret ?_ | fail "no")
local macro_rules | `(tactic| tm_at "rs") => `(tactic| first | with_reducible refine w_asg ?_ | fail "no")
local macro_rules | `(tactic| tm_at "rs") => `(tactic| first | with_reducible refine w_nil ?_ | fail "no")
local macro_rules | `(tactic| tm_at "rs") => `(tactic| first | with_reducible refine w_cons ?_ | fail "no")
local macro_rules | `(tactic| tm_at "rs") => `(tactic| first | with_reducible refine w_cb ?_ | fail "no")
local macro_rules | `(tactic| tm_at "rs") => `(tactic| first | with_reducible refine w_rU ?_ | fail "no")
local macro_rules | `(tactic| tm_at "rs") => `(tactic| first | with_reducible refine w_un ?_ | fail "no")
local macro_rules | `(tactic| tm_at "rs") => `(tactic| first | with_reducible refine w_op ?_ | fail "no")
local macro_rules | `(tactic| tm_at "rs") => `(tactic| first | with_reducible refine w_c ?_ | fail "no")
local macro_rules | `(tactic| tm_at "rs") => `(tactic| first | with_reducible refine w_rt ?_ | fail "no")
local macro_rules | `(tactic| tm_at "rs") => `(tactic| first | with_reducible refine w_nx ?_ | fail "no")
local macro_rules | `(tactic| tm_at "rs") => `(tactic| first | with_reducible refine w_seq ?_ | fail "no")
local macro_rules | `(tactic| tm_at "rs") => `(tactic| first | ((with_reducible refine' w_var ?h ?k); (case h => rfl)) | fail "no")
def topS (i : Nat) : Stmt := PySem.Challenge.pw_runsums_k41_whole_no_lesser_base.main.body.getD i (.Pass ⟨0, 0, 0, 0⟩)
abbrev s_f_law_box : Stmt := topS 49
theorem sc_f_law_box : FnScope ["script", "k", "cell", "seed"] ["script", "k"] (defScope s_f_law_box) := ⟨rfl, rfl, rfl, by decide +kernel, rfl, by decide +kernel, by decide +kernel⟩
abbrev s_f_law_take : Stmt := topS 50
theorem sc_f_law_take : FnScope ["box", "wide", "digit", "one"] ["box", "wide"] (defScope s_f_law_take) := ⟨rfl, rfl, rfl, by decide +kernel, rfl, by decide +kernel, by decide +kernel⟩
abbrev s_f_law_piece : Stmt := topS 53
theorem sc_f_law_piece : FnScope ["box", "boxes", "at", "form", "j", "some", "k", "body"] ["box", "boxes", "at"] (defScope s_f_law_piece) := ⟨rfl, rfl, rfl, by decide +kernel, rfl, by decide +kernel, by decide +kernel⟩
abbrev s_f_law_ending_rows : Stmt := topS 54
theorem sc_f_law_ending_rows : FnScope ["box", "boxes", "rows", "turn", "more"] ["box", "boxes"] (defScope s_f_law_ending_rows) := ⟨rfl, rfl, rfl, by decide +kernel, rfl, by decide +kernel, by decide +kernel⟩
abbrev s_f_law_row : Stmt := topS 51
theorem sc_f_law_row : FnScope ["box", "boxes", "many", "word"] ["box", "boxes", "many"] (defScope s_f_law_row) := ⟨rfl, rfl, rfl, by decide +kernel, rfl, by decide +kernel, by decide +kernel⟩
abbrev s_f_law_any_rows : Stmt := topS 52
theorem sc_f_law_any_rows : FnScope ["box", "boxes", "many", "rows", "k"] ["box", "boxes"] (defScope s_f_law_any_rows) := ⟨rfl, rfl, rfl, by decide +kernel, rfl, by decide +kernel, by decide +kernel⟩
abbrev s_f_law_some_program : Stmt := topS 55
theorem sc_f_law_some_program : FnScope ["box", "boxes"] ["box"] (defScope s_f_law_some_program) := ⟨rfl, rfl, rfl, by decide +kernel, rfl, by decide +kernel, by decide +kernel⟩
abbrev s_f_law_begin : Stmt := topS 56
theorem sc_f_law_begin : FnScope ["box", "boxes", "found", "j", "turn"] ["box", "boxes"] (defScope s_f_law_begin) := ⟨rfl, rfl, rfl, by decide +kernel, rfl, by decide +kernel, by decide +kernel⟩
abbrev s_f_law_after : Stmt := topS 57
theorem sc_f_law_after : FnScope ["rows", "stand", "k", "contents", "word", "j", "more"] ["rows", "stand"] (defScope s_f_law_after) := ⟨rfl, rfl, rfl, by decide +kernel, rfl, by decide +kernel, by decide +kernel⟩
abbrev s_f_law_run : Stmt := topS 58
theorem sc_f_law_run : FnScope ["rows", "begin", "limit", "stands"] ["rows", "begin", "limit"] (defScope s_f_law_run) := ⟨rfl, rfl, rfl, by decide +kernel, rfl, by decide +kernel, by decide +kernel⟩
abbrev s_f_law_stopping : Stmt := topS 59
theorem sc_f_law_stopping : FnScope ["box", "limit", "turn", "boxes", "rows", "begin", "word", "stands"] ["box", "limit"] (defScope s_f_law_stopping) := ⟨rfl, rfl, rfl, by decide +kernel, rfl, by decide +kernel, by decide +kernel⟩
abbrev s_f_is_whole : Stmt := topS 9
theorem sc_f_is_whole : FnScope ["thing"] ["thing"] (defScope s_f_is_whole) := ⟨rfl, rfl, rfl, by decide +kernel, rfl, by decide +kernel, by decide +kernel⟩
abbrev s_f_is_formed : Stmt := topS 10
theorem sc_f_is_formed : FnScope ["row", "thing"] ["row"] (defScope s_f_is_formed) := ⟨rfl, rfl, rfl, by decide +kernel, rfl, by decide +kernel, by decide +kernel⟩
abbrev s_f_check_row : Stmt := topS 11
theorem sc_f_check_row : FnScope ["row", "boxes", "many", "at", "word", "number"] ["row", "boxes", "many", "at"] (defScope s_f_check_row) := ⟨rfl, rfl, rfl, by decide +kernel, rfl, by decide +kernel, by decide +kernel⟩
abbrev s_f_check : Stmt := topS 12
theorem sc_f_check : FnScope ["boxes", "rows", "at", "row"] ["boxes", "rows"] (defScope s_f_check) := ⟨rfl, rfl, rfl, by decide +kernel, rfl, by decide +kernel, by decide +kernel⟩
abbrev s_f_Program__init : Stmt := (clsB (topS 14)).getD 0 (.Pass ⟨0, 0, 0, 0⟩)
theorem sc_f_Program__init : FnScope ["self", "boxes", "rows"] ["self", "boxes", "rows"] (defScope s_f_Program__init) := ⟨rfl, rfl, rfl, by decide +kernel, rfl, by decide +kernel, by decide +kernel⟩
abbrev s_f_Program__len : Stmt := (clsB (topS 14)).getD 2 (.Pass ⟨0, 0, 0, 0⟩)
theorem sc_f_Program__len : FnScope ["self"] ["self"] (defScope s_f_Program__len) := ⟨rfl, rfl, rfl, by decide +kernel, rfl, by decide +kernel, by decide +kernel⟩
abbrev s_f_c_for : Stmt := topS 25
theorem sc_f_c_for : FnScope ["program", "stands", "greatest", "k", "contents", "c", "half"] ["program", "stands"] (defScope s_f_c_for) := ⟨rfl, rfl, rfl, by decide +kernel, rfl, by decide +kernel, by decide +kernel⟩
abbrev s_f_with_more : Stmt := topS 20
theorem sc_f_with_more : FnScope ["contents", "j", "more"] ["contents", "j", "more"] (defScope s_f_with_more) := ⟨rfl, rfl, rfl, by decide +kernel, rfl, by decide +kernel, by decide +kernel⟩
abbrev s_f_goal_of : Stmt := topS 15
theorem sc_f_goal_of : FnScope ["program", "k", "row"] ["program", "k"] (defScope s_f_goal_of) := ⟨rfl, rfl, rfl, by decide +kernel, rfl, by decide +kernel, by decide +kernel⟩
abbrev s_f_step_from : Stmt := topS 21
theorem sc_f_step_from : FnScope ["program", "stand", "k", "contents", "row", "j"] ["program", "stand"] (defScope s_f_step_from) := ⟨rfl, rfl, rfl, by decide +kernel, rfl, by decide +kernel, by decide +kernel⟩
abbrev s_f_ran : Stmt := topS 22
theorem sc_f_ran : FnScope ["program", "begin", "most", "stands", "behind"] ["program", "begin", "most"] (defScope s_f_ran) := ⟨rfl, rfl, rfl, by decide +kernel, rfl, by decide +kernel, by decide +kernel⟩
abbrev s_f_stopped_run : Stmt := topS 24
theorem sc_f_stopped_run : FnScope ["program", "begin", "most", "word", "stands"] ["program", "begin", "most"] (defScope s_f_stopped_run) := ⟨rfl, rfl, rfl, by decide +kernel, rfl, by decide +kernel, by decide +kernel⟩
abbrev s_f_least_c : Stmt := topS 26
theorem sc_f_least_c : FnScope ["program", "begin", "most"] ["program", "begin", "most"] (defScope s_f_least_c) := ⟨rfl, rfl, rfl, by decide +kernel, rfl, by decide +kernel, by decide +kernel⟩
abbrev s_f_sum_of : Stmt := topS 29
theorem sc_f_sum_of : FnScope ["terms", "found", "k", "term"] ["terms"] (defScope s_f_sum_of) := ⟨rfl, rfl, rfl, by decide +kernel, rfl, by decide +kernel, by decide +kernel⟩
abbrev s_f_named : Stmt := topS 39
theorem sc_f_named : FnScope ["letter", "number"] ["letter", "number"] (defScope s_f_named) := ⟨rfl, rfl, rfl, by decide +kernel, rfl, by decide +kernel, by decide +kernel⟩
abbrev s_f_Saying__init : Stmt := (clsB (topS 35)).getD 0 (.Pass ⟨0, 0, 0, 0⟩)
theorem sc_f_Saying__init : FnScope ["self", "word", "left", "right"] ["self", "word", "left", "right"] (defScope s_f_Saying__init) := ⟨rfl, rfl, rfl, by decide +kernel, rfl, by decide +kernel, by decide +kernel⟩
abbrev s_f_power_at : Stmt := topS 41
theorem sc_f_power_at : FnScope ["steps"] ["steps"] (defScope s_f_power_at) := ⟨rfl, rfl, rfl, by decide +kernel, rfl, by decide +kernel, by decide +kernel⟩
abbrev s_f_top : Stmt := topS 42
theorem sc_f_top : FnScope [] [] (defScope s_f_top) := ⟨rfl, rfl, rfl, by decide +kernel, rfl, by decide +kernel, by decide +kernel⟩
abbrev s_f_base_sayings : Stmt := topS 43
theorem sc_f_base_sayings : FnScope ["program", "xs", "j", "q", "h", "i", "found"] ["program"] (defScope s_f_base_sayings) := ⟨rfl, rfl, rfl, by decide +kernel, rfl, by decide +kernel, by decide +kernel⟩
abbrev s_f_asked_boxes : Stmt := topS 18
theorem sc_f_asked_boxes : FnScope ["program", "found", "k", "row"] ["program"] (defScope s_f_asked_boxes) := ⟨rfl, rfl, rfl, by decide +kernel, rfl, by decide +kernel, by decide +kernel⟩
abbrev s_f_rows_named : Stmt := topS 40
theorem sc_f_rows_named : FnScope ["rows", "k"] ["rows"] (defScope s_f_rows_named) := ⟨rfl, rfl, rfl, by decide +kernel, rfl, by decide +kernel, by decide +kernel⟩
abbrev s_f_time_sayings : Stmt := topS 44
theorem sc_f_time_sayings : FnScope ["program", "rows", "stops", "k", "found", "j", "twice"] ["program"] (defScope s_f_time_sayings) := ⟨rfl, rfl, rfl, by decide +kernel, rfl, by decide +kernel, by decide +kernel⟩
abbrev s_f_row_sayings : Stmt := topS 45
theorem sc_f_row_sayings : FnScope ["program", "k", "row", "left", "onward", "either"] ["program", "k"] (defScope s_f_row_sayings) := ⟨rfl, rfl, rfl, by decide +kernel, rfl, by decide +kernel, by decide +kernel⟩
abbrev s_f_moves_of : Stmt := topS 16
theorem sc_f_moves_of : FnScope ["program", "j", "word", "k", "row"] ["program", "j", "word"] (defScope s_f_moves_of) := ⟨rfl, rfl, rfl, by decide +kernel, rfl, by decide +kernel, by decide +kernel⟩
abbrev s_f_box_saying : Stmt := topS 46
theorem sc_f_box_saying : FnScope ["program", "j", "q", "r", "raised", "lowered", "left", "right"] ["program", "j"] (defScope s_f_box_saying) := ⟨rfl, rfl, rfl, by decide +kernel, rfl, by decide +kernel, by decide +kernel⟩
abbrev s_f_sayings_of : Stmt := topS 47
theorem sc_f_sayings_of : FnScope ["program", "found", "k", "j"] ["program"] (defScope s_f_sayings_of) := ⟨rfl, rfl, rfl, by decide +kernel, rfl, by decide +kernel, by decide +kernel⟩
abbrev s_f_law_asked : Stmt := topS 60
theorem sc_f_law_asked : FnScope ["boxes", "rows", "found", "j", "k", "row"] ["boxes", "rows"] (defScope s_f_law_asked) := ⟨rfl, rfl, rfl, by decide +kernel, rfl, by decide +kernel, by decide +kernel⟩
abbrev s_f_law_answer : Stmt := topS 61
theorem sc_f_law_answer : FnScope ["boxes", "rows", "begin", "stands", "c", "s", "found", "j", "h", "q", "i", "t", "some", "k", "contents", "stand"] ["boxes", "rows", "begin", "stands", "c"] (defScope s_f_law_answer) := ⟨rfl, rfl, rfl, by decide +kernel, rfl, by decide +kernel, by decide +kernel⟩
abbrev s_f_law_worth : Stmt := topS 62
theorem sc_f_law_worth : FnScope ["term", "answer", "one", "other", "found"] ["term", "answer"] (defScope s_f_law_worth) := ⟨rfl, rfl, rfl, by decide +kernel, rfl, by decide +kernel, by decide +kernel⟩
abbrev s_f_law_holds : Stmt := topS 63
theorem sc_f_law_holds : FnScope ["saying", "answer", "word", "left", "right", "one", "other"] ["saying", "answer"] (defScope s_f_law_holds) := ⟨rfl, rfl, rfl, by decide +kernel, rfl, by decide +kernel, by decide +kernel⟩
abbrev s_f_law : Stmt := topS 64
theorem sc_f_law : FnScope ["script", "k", "box", "boxes", "rows", "begin", "stands", "program", "least", "sayings", "c", "answer", "name", "good", "one"] ["script"] (defScope s_f_law) := ⟨rfl, rfl, rfl, by decide +kernel, rfl, by decide +kernel, by decide +kernel⟩
def gg_f_ran_p3 {α : Type} : List α → List α → List α → List α
  | [d0], [a0, a1, a2], [] => [a0, a1, a2]
  | _, _, _ => []
def gk_f_ran_p3 : List V → List V → List V := fun vs zs => gg_f_ran_p3 [V.int 200] vs zs
theorem rel_gg_f_ran_p3 {vs zs : List V} {us ws its : List Value} (r1 : Vals vs us) (r2 : Vals zs ws) (r3 : Vals [V.int 200] its) : Vals (gg_f_ran_p3 [V.int 200] vs zs) (gg_f_ran_p3 its us ws) := by
  rcases r1 with _ | ⟨p0, _ | ⟨p1, _ | ⟨p2, _ | ⟨p3, _⟩⟩⟩⟩ <;> rcases r2 with _ | ⟨q0, _⟩ <;> rcases r3 with _ | ⟨s0, _ | ⟨s1, _⟩⟩ <;> (first | exact Paired.nil | (repeat' (first | exact Paired.nil | assumption | refine Paired.cons ?_ ?_)))
theorem cgk_f_ran_p3 {a0 a1 a2 : V} {sp : Sp} {H : Hp} {Q : VK} {E : XK} (k : sp [a0, a1, a2] H Q E) : sp (gk_f_ran_p3 [a0, a1, a2] []) H Q E := k
local macro_rules | `(tactic| tm_at "rs") => `(tactic| with_reducible refine cgk_f_ran_p3 ?_)
theorem kb_f_ran_p3 {K : PySem.W.Frag} {f : Addr} {fd : FuncData} (F : FunD K "ran" "ran" (defArgs s_f_ran) (defBody s_f_ran) (defScope s_f_ran) [V.int 200] [] f fd) : ∃ g, KBinds K fd ["program", "begin", "most"] [] g gk_f_ran_p3 :=
  kb_dfl F (by intro h; cases h) gg_f_ran_p3 rel_gg_f_ran_p3 fun _ _ _ _ _ _ _ us ws its l1 l2 => match its, us, ws, l1, l2 with | [d0], [a0, a1, a2], [], _, _ => ⟨_, rfl, rfl⟩
def gg_f_named_p1 {α : Type} : List α → List α → List α → List α
  | [d0], [a0], [] => [a0, d0]
  | _, _, _ => []
def gk_f_named_p1 : List V → List V → List V := fun vs zs => gg_f_named_p1 [V.str ""] vs zs
theorem rel_gg_f_named_p1 {vs zs : List V} {us ws its : List Value} (r1 : Vals vs us) (r2 : Vals zs ws) (r3 : Vals [V.str ""] its) : Vals (gg_f_named_p1 [V.str ""] vs zs) (gg_f_named_p1 its us ws) := by
  rcases r1 with _ | ⟨p0, _ | ⟨p1, _⟩⟩ <;> rcases r2 with _ | ⟨q0, _⟩ <;> rcases r3 with _ | ⟨s0, _ | ⟨s1, _⟩⟩ <;> (first | exact Paired.nil | (repeat' (first | exact Paired.nil | assumption | refine Paired.cons ?_ ?_)))
theorem cgk_f_named_p1 {a0 : V} {sp : Sp} {H : Hp} {Q : VK} {E : XK} (k : sp [a0, (V.str "")] H Q E) : sp (gk_f_named_p1 [a0] []) H Q E := k
local macro_rules | `(tactic| tm_at "rs") => `(tactic| with_reducible refine cgk_f_named_p1 ?_)
theorem kb_f_named_p1 {K : PySem.W.Frag} {f : Addr} {fd : FuncData} (F : FunD K "named" "named" (defArgs s_f_named) (defBody s_f_named) (defScope s_f_named) [V.str ""] [] f fd) : ∃ g, KBinds K fd ["letter", "number"] [] g gk_f_named_p1 :=
  kb_dfl F (by intro h; cases h) gg_f_named_p1 rel_gg_f_named_p1 fun _ _ _ _ _ _ _ us ws its l1 l2 => match its, us, ws, l1, l2 with | [d0], [a0], [], _, _ => ⟨_, rfl, rfl⟩
def gg_f_named_p2 {α : Type} : List α → List α → List α → List α
  | [d0], [a0, a1], [] => [a0, a1]
  | _, _, _ => []
def gk_f_named_p2 : List V → List V → List V := fun vs zs => gg_f_named_p2 [V.str ""] vs zs
theorem rel_gg_f_named_p2 {vs zs : List V} {us ws its : List Value} (r1 : Vals vs us) (r2 : Vals zs ws) (r3 : Vals [V.str ""] its) : Vals (gg_f_named_p2 [V.str ""] vs zs) (gg_f_named_p2 its us ws) := by
  rcases r1 with _ | ⟨p0, _ | ⟨p1, _ | ⟨p2, _⟩⟩⟩ <;> rcases r2 with _ | ⟨q0, _⟩ <;> rcases r3 with _ | ⟨s0, _ | ⟨s1, _⟩⟩ <;> (first | exact Paired.nil | (repeat' (first | exact Paired.nil | assumption | refine Paired.cons ?_ ?_)))
theorem cgk_f_named_p2 {a0 a1 : V} {sp : Sp} {H : Hp} {Q : VK} {E : XK} (k : sp [a0, a1] H Q E) : sp (gk_f_named_p2 [a0, a1] []) H Q E := k
local macro_rules | `(tactic| tm_at "rs") => `(tactic| with_reducible refine cgk_f_named_p2 ?_)
theorem kb_f_named_p2 {K : PySem.W.Frag} {f : Addr} {fd : FuncData} (F : FunD K "named" "named" (defArgs s_f_named) (defBody s_f_named) (defScope s_f_named) [V.str ""] [] f fd) : ∃ g, KBinds K fd ["letter", "number"] [] g gk_f_named_p2 :=
  kb_dfl F (by intro h; cases h) gg_f_named_p2 rel_gg_f_named_p2 fun _ _ _ _ _ _ _ us ws its l1 l2 => match its, us, ws, l1, l2 with | [d0], [a0, a1], [], _, _ => ⟨_, rfl, rfl⟩
def gg_f_least_c_p2 {α : Type} : List α → List α → List α → List α
  | [d0], [a0, a1], [] => [a0, a1, d0]
  | _, _, _ => []
def gk_f_least_c_p2 : List V → List V → List V := fun vs zs => gg_f_least_c_p2 [V.int 200] vs zs
theorem rel_gg_f_least_c_p2 {vs zs : List V} {us ws its : List Value} (r1 : Vals vs us) (r2 : Vals zs ws) (r3 : Vals [V.int 200] its) : Vals (gg_f_least_c_p2 [V.int 200] vs zs) (gg_f_least_c_p2 its us ws) := by
  rcases r1 with _ | ⟨p0, _ | ⟨p1, _ | ⟨p2, _⟩⟩⟩ <;> rcases r2 with _ | ⟨q0, _⟩ <;> rcases r3 with _ | ⟨s0, _ | ⟨s1, _⟩⟩ <;> (first | exact Paired.nil | (repeat' (first | exact Paired.nil | assumption | refine Paired.cons ?_ ?_)))
theorem cgk_f_least_c_p2 {a0 a1 : V} {sp : Sp} {H : Hp} {Q : VK} {E : XK} (k : sp [a0, a1, (V.int 200)] H Q E) : sp (gk_f_least_c_p2 [a0, a1] []) H Q E := k
local macro_rules | `(tactic| tm_at "rs") => `(tactic| with_reducible refine cgk_f_least_c_p2 ?_)
theorem kb_f_least_c_p2 {K : PySem.W.Frag} {f : Addr} {fd : FuncData} (F : FunD K "least_c" "least_c" (defArgs s_f_least_c) (defBody s_f_least_c) (defScope s_f_least_c) [V.int 200] [] f fd) : ∃ g, KBinds K fd ["program", "begin", "most"] [] g gk_f_least_c_p2 :=
  kb_dfl F (by intro h; cases h) gg_f_least_c_p2 rel_gg_f_least_c_p2 fun _ _ _ _ _ _ _ us ws its l1 l2 => match its, us, ws, l1, l2 with | [d0], [a0, a1], [], _, _ => ⟨_, rfl, rfl⟩
/-! a box of draws -/
def BoxAt (H : Hp) (b : Addr) : Prop := ∃ x s : Int, H b = some (.lst [.int x, .int s]) ∧ 0 ≤ x ∧ 0 ≤ s ∧ s ≤ 2147483629
theorem BoxAt.sm {H H' : Hp} {b : Addr} (h : BoxAt H b) (e : Sm H H') : BoxAt H' b := by
  obtain ⟨x, s, h, r⟩ := h
  exact ⟨x, s, e _ _ h, r⟩
theorem BoxAt.kp {H H' : Hp} {b c : Addr} (h : BoxAt H b) (n : b ≠ c) (e : Kp c H H') : BoxAt H' b := by
  obtain ⟨x, s, h, r⟩ := h
  exact ⟨x, s, e _ _ n h, r⟩
theorem BoxAt.lst {H : Hp} {b : Addr} (h : BoxAt H b) : ∃ xs, H b = some (.lst xs) := by
  obtain ⟨x, s, h, r⟩ := h
  exact ⟨_, h⟩
def Wd (w : Int) : Prop := 0 < w ∧ w.natAbs.log2 < 9000
theorem wd_of {w : Int} (h0 : 0 < w) (h : w ≤ 10 ^ 60) : Wd w := by
  refine ⟨h0, ?_⟩
  have h1 : w.natAbs ≠ 0 := by omega
  rw [Nat.log2_lt h1]
  have h2 : w.natAbs ≤ 10 ^ 60 := by omega
  exact Nat.lt_of_le_of_lt h2 (by decide +kernel)
theorem wd_pow {w : Int} {k : Nat} (h0 : 0 < w) (h : w ≤ 2 ^ k) (hk : k < 9000) : Wd w := by
  refine ⟨h0, ?_⟩
  have h1 : w.natAbs ≠ 0 := by omega
  rw [Nat.log2_lt h1]
  have h2 : (w.natAbs : Int) ≤ ((2 ^ k : Nat) : Int) := by
    rw [Int.natCast_pow]
    have e : ((w.natAbs : Nat) : Int) = w := by omega
    rw [e]; exact h
  have h3 : w.natAbs ≤ 2 ^ k := Int.ofNat_le.mp h2
  exact Nat.lt_of_le_of_lt h3 (Nat.pow_lt_pow_right (by decide) hk)
theorem wd_two {z j : Int} (e : z = 2 ^ j.toNat) (l : j < 9000) : Wd z := by
  have h1 : (1 : Int) ≤ 2 ^ j.toNat := by
    have := Nat.two_pow_pos j.toNat
    have h2 : (2 : Int) ^ j.toNat = ((2 ^ j.toNat : Nat) : Int) := by rw [Int.natCast_pow]; rfl
    omega
  exact wd_pow (k := j.toNat) (by omega) (by omega) (by omega)
theorem ne_newB {H : Hp} {p b : Addr} (hp : H p = none) (hb : BoxAt H b) : p ≠ b := by
  obtain ⟨x, s, h, _⟩ := hb
  exact ne_new hp h
theorem ne_newB2 {H : Hp} {p b : Addr} (hp : H p = none) (hb : BoxAt H b) : b ≠ p := (ne_newB hp hb).symm
theorem g_bx {H H0 : Hp} {b : Addr} (_ : BoxAt H0 b) (h : BoxAt H b) : BoxAt H b := h
local macro_rules | `(tactic| tm_at "rbx") => `(tactic| first | with_reducible assumption | ((refine' g_bx ?sg ?sh); (case sg => with_reducible assumption); (case sh => tm_at "rbx0")) | fail "no")
local macro_rules | `(tactic| tm_at "rbx0") => `(tactic| first | with_reducible assumption | ((refine' BoxAt.sm ?sa ?sb); (case sb => with_reducible assumption); (case sa => tm_at "rbx0")) | ((refine' BoxAt.kp ?sa ?sc ?sb); (case sb => with_reducible assumption); (case sc => tm_at "rne"); (case sa => tm_at "rbx0")) | fail "no")
local macro_rules | `(tactic| tm_at "rne") => `(tactic| first | ((refine' ne_newB ?sa ?sb); (case sa => with_reducible assumption); (case sb => tm_at "rbx")) | ((refine' ne_newB2 ?sa ?sb); (case sa => with_reducible assumption); (case sb => tm_at "rbx")) | fail "no")
theorem AllT.kpB {P : List V → Prop} {xs : List V} {H H' : Hp} {b : Addr} (h : AllT P xs H) (hb : BoxAt H b) (e : Kp b H H') : AllT P xs H' := by
  obtain ⟨x, s, hb, _⟩ := hb
  exact h.kp hb e
local macro_rules | `(tactic| tm_at "rall") => `(tactic| first | with_reducible assumption | exact AllT.nil | ((refine' AllT.add ?sa ?sb ?sp); (case sa => tm_at "rall"); (case sb => tm_at "rlk"); (case sp => with_reducible assumption)) | ((refine' AllT.add ?sa ?sb ?sp); (case sa => tm_at "rall"); (case sb => tm_at "rlk")) | ((refine' AllT.app ?sa ?sb); (case sa => tm_at "rall"); (case sb => tm_at "rall")) | ((refine' AllT.cut ?sa); (case sa => tm_at "rall")) | ((refine' AllT.sm ?sa ?sb); (case sb => with_reducible assumption); (case sa => tm_at "rall")) | ((refine' AllT.kpB ?sa ?sc ?sb); (case sb => with_reducible assumption); (case sc => tm_at "rbx"); (case sa => tm_at "rall")) | ((refine' AllT.kp ?sa ?sc ?sb); (case sb => with_reducible assumption); (case sc => tm_at "rlk"); (case sa => tm_at "rall")) | fail "no")
theorem SqF.kpB {K : PySem.W.Frag} {xs : List V} {a : Addr} {H H' : Hp} {b : Addr} (h : SqF K H a xs) (hb : BoxAt H b) (e : Kp b H H') : SqF K H' a xs := by
  obtain ⟨x, s, hb, _⟩ := hb
  exact h.kp hb e
local macro_rules | `(tactic| tm_at "rsf0") => `(tactic| ((refine' SqF.kpB ?sa ?sc ?sb); (case sb => with_reducible assumption); (case sc => tm_at "rbx"); (case sa => tm_at "rsf0")))
local macro_rules | `(tactic| tm_at "rz") => `(tactic| first | with_reducible assumption | tm_at "rfr" | tm_at "rkp" | tm_at "rsm" | tm_at "rbx" | tm_at "rsf" | tm_at "rlk" | tm_at "rsq" | tm_at "rne" | omega | fail "no")
/-! tuples stay as they are -/
def Tk (H H' : Hp) : Prop := ∀ p xs, H p = some (.tup xs) → H' p = some (.tup xs)
theorem Tk.refl (H : Hp) : Tk H H := fun _ _ h => h
theorem Tk.trans {H H1 H2 : Hp} (a : Tk H H1) (b : Tk H1 H2) : Tk H H2 := fun p xs h => b p xs (a p xs h)
theorem Tk.sm {H H' : Hp} (e : Sm H H') : Tk H H' := fun _ _ h => e _ _ h
theorem Tk.kp {H H' : Hp} {b : Addr} {ys : List V} (hb : H b = some (.lst ys)) (e : Kp b H H') : Tk H H' := fun p xs q => e _ _ (by
  intro z
  rw [z, hb] at q
  cases q) q
theorem Tk.kd {H H' : Hp} {b : Addr} {ys : List (Key × V)} (hb : H b = some (.dK ys)) (e : Kp b H H') : Tk H H' := fun p xs q => e _ _ (by
  intro z
  rw [z, hb] at q
  cases q) q
theorem Tk.ki {H H' : Hp} {b C dx : Addr} {ys : List (Str × V)} (hb : H b = some (.ins C dx ys)) (e : Kp b H H') : Tk H H' := fun p xs q => e _ _ (by
  intro z
  rw [z, hb] at q
  cases q) q
theorem Tk.kb {H H' : Hp} {b : Addr} (hb : BoxAt H b) (e : Kp b H H') : Tk H H' := by
  obtain ⟨x, s, hb, _⟩ := hb
  exact Tk.kp hb e
theorem Tk.kn {H H' : Hp} {b : Addr} (hb : H b = none) (e : Kp b H H') : Tk H H' := fun p xs q => e _ _ (ne_of_none q hb) q
local macro_rules | `(tactic| tm_at "rtk") => `(tactic| first | with_reducible assumption | exact Tk.refl _ | tm_at "rtk1" | ((refine' Tk.trans ?sa ?sb); (case sb => tm_at "rtk1"); (case sa => tm_at "rtk")) | fail "no")
local macro_rules | `(tactic| tm_at "rtk1") => `(tactic| first | exact Tk.sm (by with_reducible assumption) | ((refine' Tk.kb ?sa ?sb); (case sb => with_reducible assumption); (case sa => tm_at "rbx")) | ((refine' Tk.kp ?sa ?sb); (case sb => with_reducible assumption); (case sa => tm_at "rlk")) | ((refine' Tk.kd ?sa ?sb); (case sb => with_reducible assumption); (case sa => tm_at "rlk")) | ((refine' Tk.ki ?sa ?sb); (case sb => with_reducible assumption); (case sa => tm_at "rlk")) | ((refine' Tk.kn ?sa ?sb); (case sb => with_reducible assumption); (case sa => tm_at "rfr")) | with_reducible assumption | fail "no")
/-- a tuple, told ahead -/
theorem tk_lk {H H' : Hp} {p : Addr} {xs : List V} (h : H p = some (.tup xs)) (e : Tk H H') : H' p = some (.tup xs) := e _ _ h
local macro_rules | `(tactic| tm_at "rlk0") => `(tactic| first | ((refine' tk_lk ?sb ?sa); (case sa => with_reducible assumption); (case sb => tm_at "rlk0")) | fail "no")
/-! what stands in nested tuples -/
mutual
def TpD (H : Hp) : PyData → V → Prop
  | .tuple ds, v => ∃ p xs, v = .ref p ∧ H p = some (.tup xs) ∧ TpL H ds xs
  | .int i, v => v = .int i
  | .str s, v => v = .str s
  | .bool b, v => v = .bl b
  | .none, v => v = .non
  | .list _, _ => False
  | .dict _, _ => False
def TpL (H : Hp) : List PyData → List V → Prop
  | [], xs => xs = []
  | d :: ds, xs => ∃ v vs, xs = v :: vs ∧ TpD H d v ∧ TpL H ds vs
end
mutual
theorem TpD.tk {H H' : Hp} (e : Tk H H') : ∀ (d : PyData) (v : V), TpD H d v → TpD H' d v
  | .tuple ds, v, h => by
    unfold TpD at h ⊢
    obtain ⟨p, xs, rfl, q, r⟩ := h
    exact ⟨p, xs, rfl, e _ _ q, TpL.tk e ds xs r⟩
  | .int i, v, h => by unfold TpD at h ⊢; exact h
  | .str s, v, h => by unfold TpD at h ⊢; exact h
  | .bool b, v, h => by unfold TpD at h ⊢; exact h
  | .none, v, h => by unfold TpD at h ⊢; exact h
  | .list _, v, h => by unfold TpD at h; exact h.elim
  | .dict _, v, h => by unfold TpD at h; exact h.elim
theorem TpL.tk {H H' : Hp} (e : Tk H H') : ∀ (ds : List PyData) (xs : List V), TpL H ds xs → TpL H' ds xs
  | [], xs, h => by unfold TpL at h ⊢; exact h
  | d :: ds, xs, h => by
    unfold TpL at h ⊢
    obtain ⟨v, vs, rfl, q, r⟩ := h
    exact ⟨v, vs, rfl, TpD.tk e d v q, TpL.tk e ds vs r⟩
end
mutual
theorem TpD.dp {K : PySem.W.Frag} {H : Hp} : ∀ (d : PyData) (v : V), TpD H d v → Dp K H v d
  | .tuple ds, v, h => by
    unfold TpD at h
    obtain ⟨p, xs, rfl, q, r⟩ := h
    exact .tup (st_of q) (TpL.dp ds xs r)
  | .int i, v, h => by unfold TpD at h; subst h; exact .int _
  | .str s, v, h => by unfold TpD at h; subst h; exact .str _
  | .bool b, v, h => by unfold TpD at h; subst h; exact .bl _
  | .none, v, h => by unfold TpD at h; subst h; exact .non
  | .list _, v, h => by unfold TpD at h; exact h.elim
  | .dict _, v, h => by unfold TpD at h; exact h.elim
theorem TpL.dp {K : PySem.W.Frag} {H : Hp} : ∀ (ds : List PyData) (xs : List V), TpL H ds xs → DpAll K H xs ds
  | [], xs, h => by unfold TpL at h; subst h; exact .nil
  | d :: ds, xs, h => by
    unfold TpL at h
    obtain ⟨v, vs, rfl, q, r⟩ := h
    exact .cons (TpD.dp d v q) (TpL.dp ds vs r)
end
theorem tpd_t {H : Hp} {p : Addr} {xs : List V} {ds : List PyData} (h : H p = some (.tup xs)) (k : TpL H ds xs) : TpD H (.tuple ds) (.ref p) := by
  unfold TpD
  exact ⟨p, xs, rfl, h, k⟩
theorem tpd_i {H : Hp} {i : Int} : TpD H (.int i) (.int i) := by
  unfold TpD
  rfl
theorem tpd_s {H : Hp} {s : Str} : TpD H (.str s) (.str s) := by
  unfold TpD
  rfl
theorem tpl_nil {H : Hp} : TpL H [] [] := by
  unfold TpL
  rfl
theorem tpl_cons {H : Hp} {d : PyData} {ds : List PyData} {v : V} {vs : List V} (h : TpD H d v) (k : TpL H ds vs) : TpL H (d :: ds) (v :: vs) := by
  unfold TpL
  exact ⟨v, vs, rfl, h, k⟩
def nV (l : List Nat) : List V := l.map fun t => V.int (t : Nat)
def nD (l : List Nat) : List PyData := l.map fun t => PyData.int (t : Nat)
theorem tpl_nat {H : Hp} : ∀ l : List Nat, TpL H (nD l) (nV l)
  | [] => tpl_nil
  | x :: l => tpl_cons tpd_i (tpl_nat l)
theorem nV_snoc (l : List Nat) (x : Nat) : nV (l ++ [x]) = nV l ++ [V.int (x : Nat)] := List.map_append
theorem nV_len (l : List Nat) : (nV l).length = l.length := List.length_map _
theorem nV_app (l m : List Nat) : nV (l ++ m) = nV l ++ nV m := List.map_append
theorem nV_get {l : List Nat} {j x : Nat} (h : l[j]? = some x) : (nV l)[j]? = some (.int (x : Nat)) := by
  unfold nV
  rw [List.getElem?_map, h]
  rfl
theorem nV_take (l : List Nat) (n : Nat) : (nV l).take n = nV (l.take n) := by
  unfold nV
  rw [List.map_take]
theorem nV_drop (l : List Nat) (n : Nat) : (nV l).drop n = nV (l.drop n) := by
  unfold nV
  rw [List.map_drop]
theorem paired_last {α β : Type} {R : α → β → Prop} : ∀ {l : List α} {m : List β} {y : β}, Paired R l (m ++ [y]) → ∃ l' x, l = l' ++ [x] ∧ Paired R l' m ∧ R x y
  | _, [], _, .cons h .nil => ⟨[], _, rfl, .nil, h⟩
  | _, _ :: m, _, .cons h r => by
    obtain ⟨l', x, rfl, r1, r2⟩ := paired_last r
    exact ⟨_ :: l', x, rfl, .cons h r1, r2⟩
theorem paired_app {α β : Type} {R : α → β → Prop} : ∀ {l : List α} {m : List β} {l' : List α} {m' : List β}, Paired R l m → Paired R l' m' → Paired R (l ++ l') (m ++ m')
  | _, _, _, _, .nil, h => h
  | _, _, _, _, .cons a b, h => .cons a (paired_app b h)
theorem paired_mono {α β : Type} {F G : α → β → Prop} (h : ∀ p q, F p q → G p q) : ∀ {l : List α} {k : List β}, Paired F l k → Paired G l k
  | _, _, .nil => .nil
  | _, _, .cons a b => .cons (h _ _ a) (paired_mono h b)
theorem paired_len {α β : Type} {R : α → β → Prop} : ∀ {l : List α} {m : List β}, Paired R l m → l.length = m.length
  | _, _, .nil => rfl
  | _, _, .cons _ b => by rw [List.length_cons, List.length_cons, paired_len b]
theorem paired_get {α β : Type} {R : α → β → Prop} : ∀ {l : List α} {m : List β} {i : Nat} {x : α}, Paired R l m → l[i]? = some x → ∃ y, m[i]? = some y ∧ R x y
  | _, _, 0, _, .cons a b, h => ⟨_, rfl, by cases h; exact a⟩
  | _, _, i + 1, _, .cons a b, h => paired_get (i := i) b h
  | _, _, _, _, .nil, h => by cases h
theorem paired_getR {α β : Type} {R : α → β → Prop} : ∀ {l : List α} {m : List β} {i : Nat} {y : β}, Paired R l m → m[i]? = some y → ∃ x, l[i]? = some x ∧ R x y
  | _, _, 0, _, .cons a b, h => ⟨_, rfl, by cases h; exact a⟩
  | _, _, i + 1, _, .cons a b, h => paired_getR (i := i) b h
  | _, _, _, _, .nil, h => by cases h
theorem paired_rep {α β : Type} {R : α → β → Prop} {x : α} {y : β} (h : R x y) : ∀ n : Nat, Paired R (List.replicate n x) (List.replicate n y)
  | 0 => .nil
  | n + 1 => .cons h (paired_rep h n)
theorem w_rep1V {H : Hp} {Q : VK} {l : Addr} {v : V} {j : Int} (h : H l = some (.lst [v])) (h0 : 0 ≤ j) (h1 : j ≤ 1000) (k : ∀ p H', H p = none → Sm H H' → H' p = some (.lst (List.replicate j.toNat v)) → Q (.ref p) H') : gMul (.ref l) (.int j) H Q := by
  refine .inr (.inr ⟨l, j, _, rfl, rfl, h, by omega, by omega, sz_of ?_, fun p hp => k p _ hp (sm_new hp) ?_⟩)
  · show 1 * j.toNat ≤ _
    omega
  · rw [upd_same, List.flatten_replicate_singleton]
/-- one of a list -/
theorem w_ixP {K : PySem.W.Frag} {H : Hp} {Q : VK} {p : Addr} {xs : List V} {i : Int} (P : V → Prop) (h : SqL K H p xs ∨ SqT K H p xs) (h0 : 0 ≤ i) (h1 : i < (xs.length : Int)) (hx : ∀ x ∈ xs, P x) (k : ∀ x, P x → Q x H) : rIx K (.ref p) (.int i) H Q := by
  obtain ⟨j, rfl⟩ := Int.eq_ofNat_of_zero_le h0
  have hj : j < xs.length := by omega
  have e := List.getElem?_eq_getElem hj
  rcases h with h | h
  · exact w_ixL' h (atI_nat e) (k _ (hx _ (List.getElem_mem hj)))
  · exact w_ixT h (atI_nat e) (k _ (hx _ (List.getElem_mem hj)))
theorem w_ixN {K : PySem.W.Frag} {H : Hp} {Q : VK} {p : Addr} {xs : List Nat} {i : Int} (h : SqL K H p (nV xs) ∨ SqT K H p (nV xs)) (h0 : 0 ≤ i) (h1 : i < (xs.length : Int)) (k : ∀ x ∈ xs, Q (.int (x : Nat)) H) : rIx K (.ref p) (.int i) H Q :=
  w_ixP (fun v => ∃ x ∈ xs, v = .int (x : Nat)) h h0 (by rw [nV_len]; exact h1) (fun v hv => by
    obtain ⟨x, hx, e⟩ := List.mem_map.mp hv
    exact ⟨x, hx, e.symm⟩) (fun v hv => by
    obtain ⟨x, hx, rfl⟩ := hv
    exact k x hx)
theorem all2 {P : V → Prop} {x y : V} (hx : P x) (hy : P y) : ∀ z ∈ [x, y], P z := fun z hz => by
  rcases List.mem_cons.mp hz with rfl | hz
  · exact hx
  · rw [List.mem_singleton.mp hz]
    exact hy
theorem all3 {P : V → Prop} {x y u : V} (hx : P x) (hy : P y) (hu : P u) : ∀ z ∈ [x, y, u], P z := fun z hz => by
  rcases List.mem_cons.mp hz with rfl | hz
  · exact hx
  · exact all2 hy hu z hz
/-! a tuple that stands, or one of the module's own -/
def TpK (K : PySem.W.Frag) (H : Hp) (p : Addr) (xs : List V) : Prop := H p = some (.tup xs) ∨ ∀ H' : Hp, SqT K H' p xs
theorem TpK.imp {K : PySem.W.Frag} {H H' : Hp} {p : Addr} {xs : List V} (h : TpK K H p xs) (e : Tk H H') : TpK K H' p xs := h.elim (fun h => .inl (e _ _ h)) .inr
theorem TpK.sq {K : PySem.W.Frag} {H : Hp} {p : Addr} {xs : List V} (h : TpK K H p xs) : SqT K H p xs := h.elim st_of fun h => h H
theorem TpK.of {K : PySem.W.Frag} {H : Hp} {p : Addr} {xs : List V} (h : H p = some (.tup xs)) : TpK K H p xs := .inl h
local macro_rules | `(tactic| tm_at "rtp") => `(tactic| first | with_reducible assumption | exact TpK.of (by with_reducible assumption) | ((refine' TpK.imp ?sa ?sb); (case sa => with_reducible assumption); (case sb => tm_at "rtk")) | fail "no")
local macro_rules | `(tactic| tm_at "rst") => `(tactic| first | with_reducible assumption | ((refine' st_of ?sz); (case sz => tm_at "rlk")) | ((refine' TpK.sq ?sz); (case sz => tm_at "rtp")) | fail "no")
/-! zip(t, u, strict=True) over two tuples of one length -/
theorem typeCall_zipS (a b c : Value) : checkTypeCall "zip" ⟨[a, b], [(Str.ofString "strict", c)]⟩ = pure () := by kernel_rfl
theorem newCall_zipS (a b c : Value) : checkBuiltinCall "zip.__new__" ⟨[.type "zip", a, b], [(Str.ofString "strict", c)]⟩ = pure () := by kernel_rfl
theorem argsInit_zipS (obj a b c : Value) : argsOk "object.__init__" ⟨[obj, a, b], [(Str.ofString "strict", c)]⟩ := by unfold argsOk; kernel_rfl
abbrev ZiS (h : Heap) (z TI TO : Addr) (f0 : Value) : Prop := h.get? z = some { cls := .type "zip", dict := none, data := .fields #[f0, .bool false, .bool true, .ref TI, .ref TO], slots := #[] }
section
variable {prog : Program} {w : World} {A : Around} {E : Value → Shared → Prop} {s : Shared}
theorem orEnd_item {it l : Addr} {i : Nat} {items : Array Value} {x : Value} {Q : Option Value → Shared → Prop} (hit : s.heap.IsTupleIter it l i) (hl : s.heap.IsTuple l items) (hx : items[i]? = some x)
    (hQ : ∀ h', h'.IsTupleIter it l (i + 1) → Heap.SameBut it s.heap h' → Q (some x) { s with heap := h' }) : wpAny (model prog w) A (Builtin.SmallTypes.nextOrEnd (.ref it)) Q E s := by
  unfold Builtin.SmallTypes.nextOrEnd
  exact PySem.wpAny_bind (wpAny_attempt (_root_.RZ.nextOf_tuple_item hit hl hx fun h' a b => wpAny_pure (hQ h' a b)))
theorem orEnd_end {it l : Addr} {i : Nat} {items : Array Value} {Q : Option Value → Shared → Prop} (hh : A.handled = none) (hit : s.heap.IsTupleIter it l i) (hl : s.heap.IsTuple l items) (hx : items[i]? = none)
    (hQ : ∀ h', Heap.ExtBut it s.heap h' → Q none { s with heap := h' }) : wpAny (model prog w) A (Builtin.SmallTypes.nextOrEnd (.ref it)) Q E s := by
  unfold Builtin.SmallTypes.nextOrEnd
  refine PySem.wpAny_bind (wpAny_attempt (_root_.RZ.nextOf_tuple_end hh hit hl hx fun h' e hk he => ?_))
  obtain ⟨o, ho, hc⟩ := he
  refine PySem.wpAny_bind (wpAny_isInstance (T := "StopIteration") (b := true) ⟨o, ho, hc⟩ isSubtype_stop ?_)
  rw [if_pos rfl]
  exact wpAny_pure (hQ h' hk)
end
section
variable {prog : Program} {w : World} {A : Around} {E : Value → Shared → Prop} {s : Shared}
theorem stop_wp {α : Type} {Q : α → Shared → Prop} (hh : A.handled = none)
    (hE : ∀ h' e, (∀ c o, s.heap.get? c = some o → h'.get? c = some o) → (∃ o, h'.get? e = some o ∧ o.cls = .type "StopIteration") → E (.ref e) { s with heap := h' }) :
    wpAny (model prog w) A (Builtin.SmallTypes.stopIteration : Sem α) Q E s := by
  unfold Builtin.SmallTypes.stopIteration
  refine PySem.wpAny_bind ?_
  simp only [newTuple, newExc]
  refine PySem.wpAny_bind (wpAny_newObj_type ?_ (by size_fits))
  refine PySem.wpAny_bind (m := firstArgMember _ _) (wpAny_of_eq (a := Value.none) (by first | rfl | (simp only [firstArgMember]; rfl)) ?_)
  refine PySem.wpAny_newObj_type ?_ (by size_fits)
  simp only [raiseNew]
  refine PySem.wpAny_bind (wpAny_handled ?_)
  rw [hh]
  refine PySem.wpAny_bind (wpAny_pure (wpAny_throw ?_))
  exact hE _ _ (fun c o q => Heap.get?_push_of_some _ (Heap.get?_push_of_some _ q)) ⟨_, Heap.get?_push_size _ rfl, rfl⟩
theorem zipS_item {z TI TO i1 i2 l1 l2 : Addr} {k1 k2 : Nat} {xs ys : Array Value} {x y a b : Value} {Q : Value → Shared → Prop} (D : ZipApart z TI TO i1 i2 l1 l2)
    (hz : ZiS s.heap z TI TO .none) (hTI : IsPair s.heap TI (.ref i1) (.ref i2)) (hTO : IsPair s.heap TO a b) (h1 : s.heap.IsTupleIter i1 l1 k1) (h2 : s.heap.IsTupleIter i2 l2 k2) (hl1 : s.heap.IsTuple l1 xs) (hl2 : s.heap.IsTuple l2 ys) (hx : xs[k1]? = some x) (hy : ys[k2]? = some y)
    (hQ : ∀ h', ZiS h' z TI TO (rawInt s.heap.objs.size) → IsPair h' TO x y → h'.IsTupleIter i1 l1 (k1 + 1) → h'.IsTupleIter i2 l2 (k2 + 1) → IsPair h' s.heap.objs.size x y → h'.objs.size = s.heap.objs.size + 1 → (∀ c o, c ≠ z → c ≠ TO → c ≠ i1 → c ≠ i2 → s.heap.get? c = some o → h'.get? c = some o) → Q (.ref s.heap.objs.size) { s with heap := h' }) :
    wpAny (model prog w) A (Builtin.«zip.__next__» ⟨[.ref z], []⟩) (fun fin s' => ∃ v, fin = .done (.ret v) ∧ Q v s') E s := by
  show wpAny _ _ (field (Value.ref z) 2 >>= _) _ _ _
  refine PySem.wpAny_bind (wpAny_field hz rfl (x := .bool true) rfl ?_)
  show wpAny _ _ (field (Value.ref z) 3 >>= _) _ _ _
  refine PySem.wpAny_bind (wpAny_field hz rfl (x := .ref TI) rfl ?_)
  refine PySem.wpAny_bind (wpAny_seqItems hTI rfl ?_)
  show wpAny _ _ (Builtin.SmallTypes.ownedTupleIsFree (Value.ref z) >>= _) _ _ _
  refine PySem.wpAny_bind ?_
  unfold Builtin.SmallTypes.ownedTupleIsFree
  refine PySem.wpAny_bind (wpAny_field hz rfl (x := .none) rfl (wpAny_pure ?_))
  simp only [if_true]
  refine PySem.wpAny_bind (wpAny_rule ?_)
  refine PySem.wpAny_bind (wpAny_field hz rfl (x := .ref TO) rfl ?_)
  refine PySem.wpAny_bind (wpAny_setField_rec hz (by simp) fun g1 z1 s1 => ?_)
  replace z1 : ZiS g1 z TI TO .ellipsis := z1
  refine PySem.wpAny_bind ?_
  simp only [List.zipIdx_nil, List.zipIdx_cons, List.forIn_nil, List.forIn_cons]
  refine PySem.wpAny_bind (PySem.wpAny_bind (wpAny_onRaise ?_))
  show wpAny _ _ (Builtin.SmallTypes.nextOrEnd (.ref i1)) _ _ _
  refine orEnd_item (h1.extBut s1.extBut D.i1z) (hl1.extBut s1.extBut D.l1z) hx fun g2 j1 s2 => ?_
  have t2 : IsPair g2 TO a b := s2.extBut _ _ D.TOi1 (s1.extBut _ _ D.TOz hTO)
  refine PySem.wpAny_bind (wpAny_seqItems t2 rfl ?_)
  refine PySem.wpAny_bind (wpAny_updateSeq_pair t2 fun g3 t3 s3 => ?_)
  replace t3 : IsPair g3 TO x b := t3
  refine PySem.wpAny_bind (wpAny_letGo (wpAny_pure ?_))
  refine PySem.wpAny_bind (PySem.wpAny_bind (wpAny_onRaise ?_))
  show wpAny _ _ (Builtin.SmallTypes.nextOrEnd (.ref i2)) _ _ _
  refine orEnd_item (((h2.extBut s1.extBut D.i2z).extBut s2.extBut D.i12.symm).extBut s3.extBut D.TOi2.symm) (((hl2.extBut s1.extBut D.l2z).extBut s2.extBut D.l2i1).extBut s3.extBut D.l2TO) hy fun g4 j2 s4 => ?_
  have t4 : IsPair g4 TO x b := s4.extBut _ _ D.TOi2 t3
  refine PySem.wpAny_bind (wpAny_seqItems t4 rfl ?_)
  refine PySem.wpAny_bind (wpAny_updateSeq_pair t4 fun g5 t5 s5 => ?_)
  replace t5 : IsPair g5 TO x y := t5
  refine PySem.wpAny_bind (wpAny_letGo (wpAny_pure (wpAny_pure ?_)))
  refine PySem.wpAny_bind (wpAny_seqItems t5 rfl ?_)
  refine PySem.wpAny_bind (wpAny_newTuple ?_)
  have hsz : g5.objs.size = s.heap.objs.size := by rw [s5.1, s4.1, s3.1, s2.1, s1.1]
  have z5 : ZiS g5 z TI TO .ellipsis := s5.extBut _ _ D.TOz.symm (s4.extBut _ _ D.i2z.symm (s3.extBut _ _ D.TOz.symm (s2.extBut _ _ D.i1z.symm z1)))
  have k5 : ∀ c o, c ≠ z → c ≠ TO → c ≠ i1 → c ≠ i2 → s.heap.get? c = some o → g5.get? c = some o := fun c o c1 c2 c3 c4 e => s5.extBut _ _ c2 (s4.extBut _ _ c4 (s3.extBut _ _ c2 (s2.extBut _ _ c3 (s1.extBut _ _ c1 e))))
  have m1 : g5.IsTupleIter i1 l1 (k1 + 1) := ((j1.extBut s3.extBut D.TOi1.symm).extBut s4.extBut D.i12).extBut s5.extBut D.TOi1.symm
  have m2 : g5.IsTupleIter i2 l2 (k2 + 1) := j2.extBut s5.extBut D.TOi2.symm
  have hzlt : z < g5.objs.size := Heap.lt_size z5
  show wpAny _ _ (Builtin.SmallTypes.ownedTupleHandOut (Value.ref z) (.ref g5.objs.size) >>= _) _ _ _
  refine PySem.wpAny_bind ?_
  unfold Builtin.SmallTypes.ownedTupleHandOut
  have z6 : ZiS (g5.push { cls := .type "tuple", data := .seq #[x, y] }) z TI TO .ellipsis := Heap.get?_push_of_some _ z5
  refine PySem.wpAny_bind (wpAny_setField_rec z6 (by simp) fun g7 z7 s7 => ?_)
  replace z7 : ZiS g7 z TI TO (rawInt g5.objs.size) := z7
  refine PySem.wpAny_setField_rec z7 (by simp) fun g8 z8 s8 => ?_
  replace z8 : ZiS g8 z TI TO (rawInt g5.objs.size) := z8
  have up : ∀ c o, c ≠ z → g5.get? c = some o → g8.get? c = some o := fun c o c1 e => s8.extBut _ _ c1 (s7.extBut _ _ c1 (Heap.get?_push_of_some _ e))
  have t8 : IsPair g8 g5.objs.size x y := s8.extBut _ _ (Nat.ne_of_gt hzlt) (s7.extBut _ _ (Nat.ne_of_gt hzlt) (Heap.get?_push_size _ rfl))
  have n8 : g8.objs.size = g5.objs.size + 1 := by rw [s8.1, s7.1, Heap.size_push]
  rw [hsz] at z8 t8 n8
  refine PySem.wpAny_pure ⟨_, rfl, ?_⟩
  show Q (.ref g5.objs.size) _
  rw [hsz]
  exact hQ g8 z8 (up _ _ D.TOz t5) (m1.at fun o e => up _ o D.i1z e) (m2.at fun o e => up _ o D.i2z e) t8 n8 fun c o c1 c2 c3 c4 e => up c o c1 (k5 c o c1 c2 c3 c4 e)
theorem zipS_end {z TI TO i1 i2 l1 l2 : Addr} {k1 k2 : Nat} {xs ys : Array Value} {a b : Value} {Q : Fin → Shared → Prop} (hh : A.handled = none) (D : ZipApart z TI TO i1 i2 l1 l2)
    (hz : ZiS s.heap z TI TO .none) (hTI : IsPair s.heap TI (.ref i1) (.ref i2)) (hTO : IsPair s.heap TO a b) (h1 : s.heap.IsTupleIter i1 l1 k1) (h2 : s.heap.IsTupleIter i2 l2 k2) (hl1 : s.heap.IsTuple l1 xs) (hl2 : s.heap.IsTuple l2 ys) (hx : xs[k1]? = none) (hy : ys[k2]? = none)
    (hE : ∀ h' e, (∀ c o, c ≠ z → c ≠ TO → c ≠ i1 → c ≠ i2 → s.heap.get? c = some o → h'.get? c = some o) → (∃ o, h'.get? e = some o ∧ o.cls = .type "StopIteration") → E (.ref e) { s with heap := h' }) :
    wpAny (model prog w) A (Builtin.«zip.__next__» ⟨[.ref z], []⟩) Q E s := by
  show wpAny _ _ (field (Value.ref z) 2 >>= _) _ _ _
  refine PySem.wpAny_bind (wpAny_field hz rfl (x := .bool true) rfl ?_)
  show wpAny _ _ (field (Value.ref z) 3 >>= _) _ _ _
  refine PySem.wpAny_bind (wpAny_field hz rfl (x := .ref TI) rfl ?_)
  refine PySem.wpAny_bind (wpAny_seqItems hTI rfl ?_)
  show wpAny _ _ (Builtin.SmallTypes.ownedTupleIsFree (Value.ref z) >>= _) _ _ _
  refine PySem.wpAny_bind ?_
  unfold Builtin.SmallTypes.ownedTupleIsFree
  refine PySem.wpAny_bind (wpAny_field hz rfl (x := .none) rfl (wpAny_pure ?_))
  simp only [if_true]
  refine PySem.wpAny_bind (wpAny_rule ?_)
  refine PySem.wpAny_bind (wpAny_field hz rfl (x := .ref TO) rfl ?_)
  refine PySem.wpAny_bind (wpAny_setField_rec hz (by simp) fun g1 z1 s1 => ?_)
  replace z1 : ZiS g1 z TI TO .ellipsis := z1
  refine PySem.wpAny_bind ?_
  simp only [List.zipIdx_nil, List.zipIdx_cons, List.forIn_nil, List.forIn_cons]
  refine PySem.wpAny_bind (PySem.wpAny_bind (wpAny_onRaise ?_))
  show wpAny _ _ (Builtin.SmallTypes.nextOrEnd (.ref i1)) _ _ _
  refine orEnd_end hh (h1.extBut s1.extBut D.i1z) (hl1.extBut s1.extBut D.l1z) hx fun g2 s2 => ?_
  have z2 : ZiS g2 z TI TO .ellipsis := s2 _ _ D.i1z.symm z1
  refine PySem.wpAny_bind (wpAny_setField_rec z2 (by simp) fun g3 z3 s3 => ?_)
  refine PySem.wpAny_bind ?_
  refine PySem.wpAny_bind ?_
  simp only [List.drop_succ_cons, List.drop_zero, List.zipIdx_nil, List.zipIdx_cons, List.forIn_nil, List.forIn_cons]
  refine PySem.wpAny_bind (PySem.wpAny_bind ?_)
  have hs12 : ∀ c o, c ≠ z → c ≠ i1 → s.heap.get? c = some o → g3.get? c = some o := fun c o c1 c3 q => s3.extBut _ _ c1 (s2 _ _ c3 (s1.extBut _ _ c1 q))
  have n2 : g3.IsTupleIter i2 l2 k2 := h2.at fun o q => hs12 _ o D.i2z D.i12.symm q
  have q2 : g3.IsTuple l2 ys := ((hl2.extBut s1.extBut D.l2z).extBut s2 D.l2i1).extBut s3.extBut D.l2z
  refine orEnd_end hh n2 q2 hy fun g4 s4 => ?_
  rw [if_neg (by decide)]
  refine wpAny_pure (wpAny_pure (PySem.wpAny_bind (wpAny_rule ?_)))
  refine stop_wp hh fun g5 e k5 he => ?_
  exact hE g5 e (fun c o c1 _ c3 c4 q => k5 c o (s4 _ _ c4 (hs12 c o c1 c3 q))) he
theorem pyNext_zipS_item {z TI TO i1 i2 l1 l2 : Addr} {k1 k2 : Nat} {xs ys : Array Value} {x y a b : Value} {Q : Option Value → Shared → Prop} (D : ZipApart z TI TO i1 i2 l1 l2)
    (hz : ZiS s.heap z TI TO .none) (hTI : IsPair s.heap TI (.ref i1) (.ref i2)) (hTO : IsPair s.heap TO a b) (h1 : s.heap.IsTupleIter i1 l1 k1) (h2 : s.heap.IsTupleIter i2 l2 k2) (hl1 : s.heap.IsTuple l1 xs) (hl2 : s.heap.IsTuple l2 ys) (hx : xs[k1]? = some x) (hy : ys[k2]? = some y)
    (hQ : ∀ h', ZiS h' z TI TO (rawInt s.heap.objs.size) → IsPair h' TO x y → h'.IsTupleIter i1 l1 (k1 + 1) → h'.IsTupleIter i2 l2 (k2 + 1) → IsPair h' s.heap.objs.size x y → h'.objs.size = s.heap.objs.size + 1 → (∀ c o, c ≠ z → c ≠ TO → c ≠ i1 → c ≠ i2 → s.heap.get? c = some o → h'.get? c = some o) → Q (some (.ref s.heap.objs.size)) { s with heap := h' }) :
    wpAny (model prog w) A (pyNext (.ref z)) Q E s := by
  have hT : s.TypeIs (Value.ref z) "zip" := ⟨_, hz, rfl⟩
  unfold pyNext
  exact PySem.wpAny_bind (wpAny_attempt (wpAny_callSpecial?_slot (name := Str.ofString "__next__") hT F.slot_zip_next (wpAny_call_entry F.slot_zip_next hT F.entry_zip_next (zipS_item D hz hTI hTO h1 h2 hl1 hl2 hx hy fun h' a1 a2 a3 a4 a5 a6 a7 => wpAny_pure (hQ h' a1 a2 a3 a4 a5 a6 a7)) (F.args_zip_next_1 _))))
theorem pyNext_zipS_end {z TI TO i1 i2 l1 l2 : Addr} {k1 k2 : Nat} {xs ys : Array Value} {a b : Value} {Q : Option Value → Shared → Prop} (hh : A.handled = none) (D : ZipApart z TI TO i1 i2 l1 l2)
    (hz : ZiS s.heap z TI TO .none) (hTI : IsPair s.heap TI (.ref i1) (.ref i2)) (hTO : IsPair s.heap TO a b) (h1 : s.heap.IsTupleIter i1 l1 k1) (h2 : s.heap.IsTupleIter i2 l2 k2) (hl1 : s.heap.IsTuple l1 xs) (hl2 : s.heap.IsTuple l2 ys) (hx : xs[k1]? = none) (hy : ys[k2]? = none)
    (hQ : ∀ h', (∀ c o, c ≠ z → c ≠ TO → c ≠ i1 → c ≠ i2 → s.heap.get? c = some o → h'.get? c = some o) → Q none { s with heap := h' }) : wpAny (model prog w) A (pyNext (.ref z)) Q E s := by
  have hT : s.TypeIs (Value.ref z) "zip" := ⟨_, hz, rfl⟩
  unfold pyNext
  refine PySem.wpAny_bind (wpAny_attempt (wpAny_callSpecial?_slot (name := Str.ofString "__next__") hT F.slot_zip_next (wpAny_call_entry F.slot_zip_next hT F.entry_zip_next (zipS_end hh D hz hTI hTO h1 h2 hl1 hl2 hx hy fun h' e hk he => ?_) (F.args_zip_next_1 _))))
  obtain ⟨o, ho, hc⟩ := he
  refine PySem.wpAny_bind (wpAny_isInstance (T := "StopIteration") (b := true) ⟨o, ho, hc⟩ isSubtype_stop ?_)
  exact wpAny_pure (hQ _ hk)
theorem letGo_zipS {elts : List Expr} {x1} {pos : Pos} {z TI TO T : Addr} {Q : Unit → Shared → Prop} (hz : ZiS s.heap z TI TO (rawInt T)) (hQ : ∀ h', ZiS h' z TI TO .none → Heap.SameBut z s.heap h' → Q () { s with heap := h' }) :
    wpAny (model prog w) A (letOwnedTupleGo (.Tuple elts x1 pos) (.ref z) (.ref T)) Q E s := by
  unfold letOwnedTupleGo
  refine PySem.wpAny_bind (wpAny_load hz ?_)
  show wpAny _ _ (if (["enumerate", "zip", "dict_itemiterator", "dict_reverseitemiterator", "odict_iterator", "itertools.zip_longest", "itertools.pairwise"].contains "zip" && (#[rawInt T, .bool false, .bool true, .ref TI, .ref TO] : Array Value)[0]? == some (rawInt T)) = true then _ else _) Q E s
  rw [if_pos (by simp)]
  refine PySem.wpAny_bind (wpAny_rule ?_)
  show wpAny _ _ (setField (Value.ref z) 0 .none) Q E s
  exact wpAny_setField_rec hz (by simp) fun h' hz' hs' => hQ h' hz' hs'
theorem pyIter_zipS {z TI TO : Addr} {f0 : Value} {Q : Value → Shared → Prop} (hz : ZiS s.heap z TI TO f0) (h : Q (.ref z) s) : wpAny (model prog w) A (pyIter (.ref z)) Q E s := by
  have hT : s.TypeIs (Value.ref z) "zip" := ⟨_, hz, rfl⟩
  refine wpAny_pyIter_slot hT F.slot_zip_iter (wpAny_call_entry F.slot_zip_iter hT F.entry_zip_iter ?_ (F.args_zip_iter_1 _))
  show wpAny _ _ (ret (Value.ref z)) _ _ s
  exact wpAny_pure ⟨_, rfl, "zip", _, hT, F.slot_zip_next.lookup, h⟩
end
abbrev zS1 (h : Heap) (l1 : Addr) : Heap := h.push { cls := .type "tuple_iterator", data := .fields #[.ref l1, .int 0 0] }
abbrev zS2 (h : Heap) (l1 l2 : Addr) : Heap := (zS1 h l1).push { cls := .type "tuple_iterator", data := .fields #[.ref l2, .int 0 0] }
abbrev zS3 (h : Heap) (l1 l2 : Addr) : Heap := (zS2 h l1 l2).push { cls := .type "tuple", data := .seq #[.ref h.objs.size, .ref (zS1 h l1).objs.size] }
abbrev zS4 (h : Heap) (l1 l2 : Addr) : Heap := (zS3 h l1 l2).push { cls := .type "tuple", data := .seq #[.none, .none] }
abbrev zS5 (h : Heap) (l1 l2 : Addr) : Heap := (zS4 h l1 l2).push { cls := .type "zip", data := .fields #[.none, .bool false, .bool true, .ref (zS2 h l1 l2).objs.size, .ref (zS3 h l1 l2).objs.size] }
theorem meets_zipS_new (l1 l2 : Addr) (xs ys : Array Value) : Meets (Builtin.«zip.__new__» ⟨[.type "zip", .ref l1, .ref l2], [(Str.ofString "strict", .bool true)]⟩) (fun _ R s => s.heap.IsTuple l1 xs ∧ s.heap.IsTuple l2 ys ∧ R (.ok (.ret (.ref (zS4 s.heap l1 l2).objs.size))) { s with heap := zS5 s.heap l1 l2 }) :=
  .of_wp fun prog w A R s h => by
    obtain ⟨hp, g, d, tk, os⟩ := s
    obtain ⟨hl1, hl2, h⟩ := h
    have hsub := sub_zip
    have e1 : (Str.ofString "strict" != ("strict" : Str)) = false := by decide +kernel
    have L1 : Heap.IsTuple (Shared.heap ⟨hp, g, d, tk, os⟩) l1 xs := hl1
    have L2' : Heap.IsTuple (Shared.heap ⟨hp.push { cls := .type "tuple_iterator", data := .fields #[.ref l1, .int 0 0] }, g, d, tk, os⟩) l2 ys := Heap.IsTuple.push hl2 _
    wp_walk using wpAny_pyIter_tuple L1, wpAny_pyIter_tuple L2'
    exact ⟨_, rfl, h⟩
section
variable {prog : Program} {w : World} {A : Around} {E : Value → Shared → Prop} {s : Shared}
theorem callWith_tyK {M : Model} {A : Around} {E : Value → Shared → Prop} {s : Shared} {env : Env} {pos : Pos} {T : String} {e : Expr} {rest : List Expr} {kws : List Keyword} {Q : Value → Shared → Prop}
    (h : wpAny M A (spliced (backTo pos (starEach (e :: rest) env))) (fun vs s₁ => wpAny M A (evalAll ((backToKw pos (keywordEach kws env)).map (·.2))) (fun kvs s₂ => wpAny M A (call (.type T) vs (((backToKw pos (keywordEach kws env)).filterMap (·.1)).zip kvs)) Q E s₂) E s₁) E s)
    (he : backTo pos (starEach (e :: rest) env) = (false, eval e env) :: backTo pos (starEach rest env)) (hplain : (backTo pos (starEach (e :: rest) env)).any (·.1) = false)
    (hall : (backToKw pos (keywordEach kws env)).all (·.1.isSome) = true) (hkw : (backToKw pos (keywordEach kws env)).any (·.1.isNone) = false) :
    wpAny M A (callWith pos (.type T) [] (backTo pos (starEach (e :: rest) env)) (backToKw pos (keywordEach kws env))) Q E s := by
  have h' : wpAny M A (evalArgs (.type T) true (backTo pos (starEach (e :: rest) env)) (backToKw pos (keywordEach kws env))) (fun a s₁ => wpAny M A (call (.type T) ([] ++ a.pos) a.kw) Q E s₁) E s := by
    rw [he] at h ⊢
    exact PyProof.Rows.evalArgs_kwB hall h
  unfold callWith
  refine PySem.wpAny_bind (wpAny_holding (wpAny_mono h' (fun a s1 q1 => PySem.wpAny_bind (wpAny_standAt ?_)) fun _ _ x => x))
  simp only [hplain, hkw, Bool.or_false]
  refine PySem.wpAny_bind (wpAny_pure ?_)
  exact PySem.wpAny_bind (wpAny_mono q1 (fun r s2 hr => PySem.wpAny_bind (wpAny_holding (wpAny_point (wpAny_pure hr)))) fun _ _ x => x)
theorem call_zipS {l1 l2 : Addr} {xs ys : Array Value} {Q : Value → Shared → Prop} (hl1 : s.heap.IsTuple l1 xs) (hl2 : s.heap.IsTuple l2 ys)
    (h : ∀ h', ZiS h' (s.heap.objs.size + 4) (s.heap.objs.size + 2) (s.heap.objs.size + 3) .none → IsPair h' (s.heap.objs.size + 2) (.ref s.heap.objs.size) (.ref (s.heap.objs.size + 1)) → IsPair h' (s.heap.objs.size + 3) .none .none → h'.IsTupleIter s.heap.objs.size l1 0 → h'.IsTupleIter (s.heap.objs.size + 1) l2 0 → (∀ c o, s.heap.get? c = some o → h'.get? c = some o) → Q (.ref (s.heap.objs.size + 4)) { s with heap := h' }) :
    wpAny (model prog w) A (call (.type "zip") [.ref l1, .ref l2] [(Str.ofString "strict", .bool true)]) Q E s := by
  refine callType_newKw F.called_zip (by decide) (typeCall_zipS _ _ _) (newCall_zipS _ _ _) (fun obj => argsInit_zipS obj _ _ _) F.entry_zip_new (meets_zipS_new l1 l2 xs ys) ⟨hl1, hl2, ?_⟩
  have n1 : (zS1 s.heap l1).objs.size = s.heap.objs.size + 1 := Heap.size_push ..
  have n2 : (zS2 s.heap l1 l2).objs.size = s.heap.objs.size + 2 := by rw [Heap.size_push, n1]
  have n3 : (zS3 s.heap l1 l2).objs.size = s.heap.objs.size + 3 := by rw [Heap.size_push, n2]
  have n4 : (zS4 s.heap l1 l2).objs.size = s.heap.objs.size + 4 := by rw [Heap.size_push, n3]
  have g5 : (zS5 s.heap l1 l2).get? (zS4 s.heap l1 l2).objs.size = some _ := Heap.get?_push_size _ rfl
  have g4 : (zS5 s.heap l1 l2).get? (zS3 s.heap l1 l2).objs.size = some _ := Heap.get?_push_of_some _ (Heap.get?_push_size _ rfl)
  have g3 : (zS5 s.heap l1 l2).get? (zS2 s.heap l1 l2).objs.size = some _ := Heap.get?_push_of_some _ (Heap.get?_push_of_some _ (Heap.get?_push_size _ rfl))
  have g2 : (zS5 s.heap l1 l2).get? (zS1 s.heap l1).objs.size = some _ := Heap.get?_push_of_some _ (Heap.get?_push_of_some _ (Heap.get?_push_of_some _ (Heap.get?_push_size _ rfl)))
  have g1 : (zS5 s.heap l1 l2).get? s.heap.objs.size = some _ := Heap.get?_push_of_some _ (Heap.get?_push_of_some _ (Heap.get?_push_of_some _ (Heap.get?_push_of_some _ (Heap.get?_push_size _ rfl))))
  show _ ∧ _
  rw [n2, n3, n4] at g5
  rw [n1, n2] at g3
  rw [n3] at g4
  rw [n1] at g2
  rw [n4]
  exact ⟨⟨_, g5, rfl⟩, h _ g5 g3 g4 ⟨_, g1, rfl, rfl⟩ ⟨_, g2, rfl, rfl⟩ fun c o x => Heap.get?_push_of_some _ (Heap.get?_push_of_some _ (Heap.get?_push_of_some _ (Heap.get?_push_of_some _ (Heap.get?_push_of_some _ x))))⟩
end
/-- two tuples of one length, as they stand at each turn -/
def ItS (K : PySem.W.Frag) (a b : Addr) : It :=
  ⟨fun i H => ∃ (xs ys : List V) (x y : V), SqT K H a xs ∧ SqT K H b ys ∧ xs[i]? = some x ∧ ys[i]? = some y, fun i H v H' => ∃ T x y, v = .ref T ∧ H T = none ∧ H' = upd H T (.tup [x, y]) ∧ (∀ xs, SqT K H a xs → xs[i]? = some x) ∧ ∀ ys, SqT K H b ys → ys[i]? = some y, fun i H => ∃ xs ys : List V, SqT K H a xs ∧ SqT K H b ys ∧ xs.length ≤ i ∧ ys.length ≤ i⟩
theorem five {c z TI TO i1 i2 : Addr} (h : c ∈ [z, TI, TO, i1, i2]) : c = z ∨ c = TI ∨ c = TO ∨ c = i1 ∨ c = i2 := by simpa using h
theorem turn_zipS {P : Program} {w : World} {K : PySem.W.Frag} {elts : List Expr} {kk : Nat} {tpos : Pos} {a b z TI TO i1 i2 : Addr} (D : ZipApart z TI TO i1 i2 a b) :
    Turn P w K (.Tuple elts kk tpos) (ItS K a b) [z, TI, TO, i1, i2] z (fun i h => ZiS h z TI TO .none ∧ IsPair h TI (.ref i1) (.ref i2) ∧ (∃ x y, IsPair h TO x y) ∧ h.IsTupleIter i1 a i ∧ h.IsTupleIter i2 b i) where
  mem := by simp
  obj := fun i h st c hc => by
    obtain ⟨hz, hTI, ⟨x, y, hTO⟩, ⟨o1, e1, _, d1⟩, ⟨o2, e2, _, d2⟩⟩ := st
    rcases five hc with rfl | rfl | rfl | rfl | rfl
    · exact ⟨_, hz, fun v q => nomatch q⟩
    · exact ⟨_, hTI, fun v q => nomatch q⟩
    · exact ⟨_, hTO, fun v q => nomatch q⟩
    · exact ⟨o1, e1, fun v q => by rw [d1] at q; cases q⟩
    · exact ⟨o2, e2, fun v q => by rw [d2] at q; cases q⟩
  keep := fun i h h' st k => by
    obtain ⟨hz, hTI, ⟨x, y, hTO⟩, h1, h2⟩ := st
    exact ⟨k z (by simp) _ hz, k TI (by simp) _ hTI, ⟨x, y, k TO (by simp) _ hTO⟩, h1.at fun o q => k i1 (by simp) o q, h2.at fun o q => k i2 (by simp) o q⟩
  item := by
    intro X hP hw hK hc i pins s σ H E I hf st hg
    subst hP hw hK
    obtain ⟨hz, hTI, ⟨x0, y0, hTO⟩, h1, h2⟩ := st
    obtain ⟨xs, ys, x, y, hqx, hqy, hx, hy⟩ := hg
    obtain ⟨its, rv, p, _⟩ := I.tuple hqx
    obtain ⟨its2, rv2, p2, _⟩ := I.tuple hqy
    obtain ⟨u, hu, ru⟩ := rv.get hx
    obtain ⟨u2, hu2, ru2⟩ := rv2.get hy
    have hzl : z < s.heap.objs.size := Heap.lt_size hz
    refine pyNext_zipS_item D hz hTI hTO h1 h2 p p2 (x := u) (y := u2) (by simpa using hu) (by simpa using hu2) fun h' z' TO' h1' h2' hT hsz hk => ?_
    refine ⟨_, rfl, letGo_zipS (s := { s with heap := h' }) z' fun h'' z'' sb => ?_⟩
    have hT2 : h''.get? s.heap.objs.size = some { cls := .type "tuple", data := .seq #[u, u2] } := (sb.2 _ (Nat.ne_of_gt hzl)).trans hT
    have new : ObjOk X.prog X.w (upd H s.heap.objs.size (.tup [x, y])) h'' s.heap.objs.size (.tup [x, y]) := ⟨by show 2 ≤ sizeLine; decide, [u, u2], .cons ru (.cons ru2 .nil), ⟨_, hT2, rfl, _, rfl⟩⟩
    have kk' : ∀ c o, c ∉ [z, TI, TO, i1, i2] → s.heap.get? c = some o → h''.get? c = some o := fun c o hb q => (sb.2 c (fun q' => hb (by simp [q']))).trans (hk c o (fun q' => hb (by simp [q'])) (fun q' => hb (by simp [q'])) (fun q' => hb (by simp [q'])) (fun q' => hb (by simp [q'])) q)
    have I1 : Inv X pins σ (upd H s.heap.objs.size (.tup [x, y])) { s with heap := h'' } := I.turnedNew (t' := s.toks) (ch := [z, TI, TO, i1, i2]) kk' hf (Nat.le_refl _) new
    refine ⟨.ref s.heap.objs.size, _, I1, rfl, ⟨_, x, y, rfl, I.hok.fresh (Nat.le_refl _), rfl, fun l hl => by rw [I.tuple_inj hl hqx]; exact hx, fun l hl => by rw [I.tuple_inj hl hqy]; exact hy⟩, ⟨z'', (sb.2 _ D.TIz).trans (hk _ _ D.TIz D.TITO D.TIi1 D.TIi2 hTI), ⟨u, u2, (sb.2 _ D.TOz).trans TO'⟩, h1'.at fun o q => (sb.2 _ D.i1z).trans q, h2'.at fun o q => (sb.2 _ D.i2z).trans q⟩, fun c hcm => ?_⟩
    have hlt : c < s.heap.objs.size := by
      rcases five hcm with rfl | rfl | rfl | rfl | rfl
      · exact hzl
      · exact Heap.lt_size hTI
      · exact Heap.lt_size hTO
      · obtain ⟨_, e1, _⟩ := h1
        exact Heap.lt_size e1
      · obtain ⟨_, e2, _⟩ := h2
        exact Heap.lt_size e2
    rw [upd_ne (Nat.ne_of_lt hlt)]
    exact (hf c hcm).1
  done := by
    intro X hP hw hK hc i pins s σ H E I hf st hg
    subst hP hw hK
    obtain ⟨hz, hTI, ⟨x0, y0, hTO⟩, h1, h2⟩ := st
    obtain ⟨xs, ys, hqx, hqy, q1, q2⟩ := hg
    obtain ⟨its, rv, p, _⟩ := I.tuple hqx
    obtain ⟨its2, rv2, p2, _⟩ := I.tuple hqy
    have l1 := rv.length
    have l2 := rv2.length
    exact pyNext_zipS_end (I.ok.hd hc) D hz hTI hTO h1 h2 p p2 (by simp; omega) (by simp; omega) fun h' hk => ⟨rfl, I.turnedL (t' := s.toks) (ch := [z, TI, TO, i1, i2]) (fun c o hb q => hk c o (fun q' => hb (by simp [q'])) (fun q' => hb (by simp [q'])) (fun q' => hb (by simp [q'])) (fun q' => hb (by simp [q'])) q) hf⟩
  self := fun A i s Q E st h => pyIter_zipS st.1 h
def iZipS (K : PySem.W.Frag) (ta tk : TA) : TI := fun σ H R => ta σ H fun vs H1 => tk σ H1 fun zs H2 => ∃ a b xs ys, vs = [.ref a, .ref b] ∧ zs = [.bl true] ∧ SqT K H2 a xs ∧ SqT K H2 b ys ∧ R (ItS K a b) H2
theorem pi_zipS {X : Cx} {e e2 : Expr} {ta tk : TA} {p pos tpos : Pos} {elts : List Expr} {kk : Nat} {kws : List Keyword} (hg : Gl X "zip") (hm : X.mg "zip" = none) (ha : PA X [e, e2] ta) (hk : PK X kws tk)
    (he : backTo pos (starEach [e, e2] X.env) = (false, eval e X.env) :: backTo pos (starEach [e2] X.env) := by rfl) (hpl : (backTo pos (starEach [e, e2] X.env)).any (·.1) = false := by rfl)
    (hall : (backToKw pos (keywordEach kws X.env)).all (·.1.isSome) = true := by rfl) (hnone : (backToKw pos (keywordEach kws X.env)).any (·.1.isNone) = false := by rfl) (hks : (backToKw pos (keywordEach kws X.env)).filterMap (·.1) = [Str.ofString "strict"] := by rfl) :
    PI X (.Tuple elts kk tpos) (.Call (.Name "zip" p) [e, e2] kws pos) (iZipS X.K ta tk) := by
  refine ⟨fun pins s σ H R I h => ?_⟩
  refine wpAny_Call_Name_kw (ld_blt I hg hm PyProof.Rows.boot_zip ?_)
  refine callWith_tyK (thn (ha.run pos pins s σ H _ I h) fun us s1 ⟨vs, H1, I1, r1, q1⟩ => thn (hk.run pos pins s1 σ H1 _ I1 q1) fun ws s2 ⟨zs, H2, I2, r2, q2⟩ => ?_) he hpl hall hnone
  rw [hks]
  obtain ⟨a, b, xs, ys, rfl, rfl, hqx, hqy, q⟩ := q2
  cases r1 with
  | cons r rr =>
    cases rr with
    | cons r' rr =>
      cases rr
      cases r
      cases r'
      cases r2 with
      | cons r3 rr3 =>
        cases rr3
        cases r3
        obtain ⟨its, rv, p1, _⟩ := I2.tuple hqx
        obtain ⟨its2, rv2, p2, _⟩ := I2.tuple hqy
        obtain ⟨o1, ho1, _⟩ := id p1
        obtain ⟨o2, ho2, _⟩ := id p2
        refine call_zipS (show s2.heap.IsTuple a its.toArray from p1) (show s2.heap.IsTuple b its2.toArray from p2) fun h' hz hTI hTO h1 h2 hk => pyIter_zipS hz ?_
        have I3 : Inv X pins σ H2 { s2 with heap := h' } := I2.kept (t' := s2.toks) hk
        refine ⟨s2.heap.objs.size + 4, [s2.heap.objs.size + 4, s2.heap.objs.size + 2, s2.heap.objs.size + 3, s2.heap.objs.size, s2.heap.objs.size + 1], _, _, H2, rfl, I3, turn_zipS (PySem.W.ktu_apart s2.heap.objs.size a b (Heap.lt_size ho1) (Heap.lt_size ho2)), ⟨hz, hTI, ⟨_, _, hTO⟩, h1, h2⟩, fun c hcm => ?_, q⟩
        have hle : s2.heap.objs.size ≤ c := by
          rcases five hcm with rfl | rfl | rfl | rfl | rfl
          · exact Nat.le_add_right _ _
          · exact Nat.le_add_right _ _
          · exact Nat.le_add_right _ _
          · exact Nat.le_refl _
          · exact Nat.le_add_right _ _
        exact I2.fpOk hle (I2.hok.fresh hle)
theorem walk_zipS {K : PySem.W.Frag} {a b : Addr} {xs ys : List V} (e : xs.length = ys.length) : Walk (ItS K a b) xs.length (fun H => SqT K H a xs ∧ SqT K H b ys) (fun i H v H' => ∃ T x y, v = .ref T ∧ H T = none ∧ H' = upd H T (.tup [x, y]) ∧ xs[i]? = some x ∧ ys[i]? = some y) :=
  ⟨fun i H hi h => ⟨xs, ys, _, _, h.1, h.2, List.getElem?_eq_getElem hi, List.getElem?_eq_getElem (e ▸ hi)⟩, fun H h => ⟨xs, ys, h.1, h.2, Nat.le_refl _, by omega⟩, fun i H v H' hi h y => by
    obtain ⟨T, x, z, e1, e2, e3, h1, h2⟩ := y
    exact ⟨T, x, z, e1, e2, e3, h1 xs h.1, h2 ys h.2⟩⟩
theorem loopZS {σ : L2.St} {H : Hp} {D : Ends} {K : PySem.W.Frag} {g : TG} {tb : TS} {a b : Addr} {xs ys : List V} (e : xs.length = ys.length) (Pv : Nat → L2.St → Hp → Prop) (h0 : Pv 0 σ H) (hl : ∀ i σ H, i ≤ xs.length → Pv i σ H → SqT K H a xs ∧ SqT K H b ys)
    (hs : ∀ i x y T σ H H', i < xs.length → xs[i]? = some x → ys[i]? = some y → Pv i σ H → H T = none → Sm H H' → H' T = some (.tup [x, y]) → g (.ref T) σ H' fun σ2 H2 => tb (En (Pv (i + 1)) (RT D) (NX D) (Pv (i + 1))) σ2 H2) (hd : ∀ σ H, Pv xs.length σ H → NX D σ H) : Loop (ItS K a b) g tb D σ H :=
  for_it (walk_zipS e) Pv h0 hl (fun i x σ H H' hi p y => by
    obtain ⟨T, u, v, rfl, hT, rfl, h1, h2⟩ := y
    exact hs i u v T σ H _ hi h1 h2 p hT (sm_new hT) upd_same) hd
def ZsE (K : PySem.W.Frag) (R : It → Hp → Prop) (vs zs : List V) (H2 : Hp) : Prop := ∃ a b xs ys, vs = [.ref a, .ref b] ∧ zs = [.bl true] ∧ SqT K H2 a xs ∧ SqT K H2 b ys ∧ R (ItS K a b) H2
theorem w_iZS {K : PySem.W.Frag} {σ : L2.St} {H : Hp} {ta tk : TA} {R : It → Hp → Prop} (k : ta σ H fun vs H1 => tk σ H1 fun zs H2 => ZsE K R vs zs H2) : iZipS K ta tk σ H R := k
theorem w_iZSe {K : PySem.W.Frag} {H : Hp} {R : It → Hp → Prop} {a b : Addr} {xs ys : List V} (h1 : SqT K H a xs) (h2 : SqT K H b ys) (k : R (ItS K a b) H) : ZsE K R [.ref a, .ref b] [.bl true] H := ⟨a, b, xs, ys, rfl, rfl, h1, h2, k⟩
local macro_rules | `(tactic| tm_at "rs") => `(tactic| first | ((with_reducible refine' w_iZSe ?h ?i ?k); (case h => tm_at "rst"); (case i => tm_at "rst")) | fail "no")
local macro_rules | `(tactic| tm_at "rs") => `(tactic| first | with_reducible refine w_iZS ?_ | fail "no")
/-! texts: signs of them -/
theorem tl_len (z : Str) : z.cps.toList.length = z.length := Array.length_toList
theorem w_ixSF {K : PySem.W.Frag} {H : Hp} {Q : VK} {z : Str} {i : Int} (zl : z.length ≤ 1000) (h0 : 0 ≤ i) (h1 : i < (z.length : Int)) (k : ∀ c : Nat, z.cps.toList[i.toNat]? = some c → Q (.str ⟨#[c]⟩) H) : rIx K (.str z) (.int i) H Q := by
  obtain ⟨j, rfl⟩ := Int.eq_ofNat_of_zero_le h0
  have h2 : j < z.cps.toList.length := by rw [tl_len]; omega
  exact .inr (.inr ⟨z, j, _, rfl, rfl, sz_of (by omega), atI_nat (List.getElem?_eq_getElem h2), k _ (List.getElem?_eq_getElem h2)⟩)
def gInS : R2 := fun x y H Q => ∃ (c : Nat) (z : Str), x = .str ⟨#[c]⟩ ∧ y = .str z ∧ Q (.bl (decide (c ∈ z.cps.toList))) H
def gNotInS : R2 := fun x y H Q => ∃ (c : Nat) (z : Str), x = .str ⟨#[c]⟩ ∧ y = .str z ∧ Q (.bl (!decide (c ∈ z.cps.toList))) H
theorem w_inS {H : Hp} {Q : VK} {c : Nat} {z : Str} (k : Q (.bl (decide (c ∈ z.cps.toList))) H) : gInS (.str ⟨#[c]⟩) (.str z) H Q := ⟨c, z, rfl, rfl, k⟩
theorem w_notInS {H : Hp} {Q : VK} {c : Nat} {z : Str} (k : Q (.bl (!decide (c ∈ z.cps.toList))) H) : gNotInS (.str ⟨#[c]⟩) (.str z) H Q := ⟨c, z, rfl, rfl, k⟩
def ItsE (R : It → Hp → Prop) (v : V) (H1 : Hp) : Prop := ∃ x, v = .str x ∧ R (Its x) H1
theorem w_iS {σ : L2.St} {H : Hp} {te : TE} {R : It → Hp → Prop} (k : te σ H fun v H1 => ItsE R v H1) : iStr te σ H R := k
theorem w_iSe {H : Hp} {R : It → Hp → Prop} {z : Str} (k : R (Its z) H) : ItsE R (.str z) H := ⟨z, rfl, k⟩
theorem app_len (a b : Str) : (a ++ b).length = a.length + b.length := Array.size_append
def ChE (r' : R2) (tc : TE) (σ : L2.St) (Q : VK) (y z : V) (H3 : Hp) : Prop := ∃ k, z = .bl k ∧ (if k = true then tc σ H3 fun w' H4 => r' y w' H4 Q else Q (.bl false) H3)
theorem w_chain {r r' : R2} {ta tb tc : TE} {σ : L2.St} {H : Hp} {Q : VK} (k : ta σ H fun x H1 => tb σ H1 fun y H2 => r x y H2 fun z H3 => ChE r' tc σ Q y z H3) : tChain r r' ta tb tc σ H Q := k
theorem w_chE {r' : R2} {tc : TE} {σ : L2.St} {Q : VK} {y : V} {H3 : Hp} {p : Prop} [Decidable p] (a : p → tc σ H3 fun w' H4 => r' y w' H4 Q) (b : ¬ p → Q (.bl false) H3) : ChE r' tc σ Q y (.bl (decide p)) H3 := by
  refine ⟨_, rfl, ?_⟩
  by_cases h : p
  · rw [if_pos (decide_eq_true h)]; exact a h
  · rw [if_neg (by rw [decide_eq_false h]; decide)]; exact b h
def JoinE (K : PySem.W.Frag) (x y : V) (Q : VK) (H : Hp) : Prop := ∃ a p, ∃ ys : List Str, x = .str a ∧ [y] = [.ref p] ∧ (SqL K H p (ys.map V.str) ∨ SqT K H p (ys.map V.str)) ∧ (ys.map (·.length)).sum + ys.length * a.length ≤ 16777216 ∧ Q (.str (Txt.join a ys)) H
theorem w_join {K : PySem.W.Frag} {to te : TE} {σ : L2.St} {H : Hp} {Q : VK} (k : to σ H fun x H1 => (∃ a, x = .str a) ∧ te σ H1 fun y H2 => JoinE K x y Q H2) :
    tM1 (fun x xs H Q => ∃ a p, ∃ ys : List Str, x = .str a ∧ xs = [.ref p] ∧ (SqL K H p (ys.map V.str) ∨ SqT K H p (ys.map V.str)) ∧ (ys.map (·.length)).sum + ys.length * a.length ≤ 16777216 ∧ Q (.str (Txt.join a ys)) H) to te σ H Q := k
theorem w_isS {P : Prop} {s : Str} (k : P) : (∃ a, V.str s = .str a) ∧ P := ⟨⟨_, rfl⟩, k⟩
theorem w_slS {H : Hp} {Q : VK} {z : Str} {lo hi : Option Int} (zl : z.length ≤ 10000) (k : (cutS z lo hi).length ≤ z.length → Q (.str (cutS z lo hi)) H) : rSlS (.str z) lo hi H Q := ⟨z, rfl, sz_of (by omega), k (cutS_length _ _ _)⟩
theorem sgn_len (c : Nat) : (⟨#[c]⟩ : Str).length = 1 := rfl
local macro_rules | `(tactic| tm_at "rs") => `(tactic| first | ((with_reducible refine w_addS ?h ?_); (case h => first | (apply sz_of; omega) | (apply sz_of; simp only [app_len, sgn_len]; omega) | exact sz_of (by decide))) | fail "no")
local macro_rules | `(tactic| tm_at "rs") => `(tactic| first | ((with_reducible refine w_lenS ?h ?_); (case h => first | (apply sz_of; omega) | exact sz_of (by decide) | (apply sz_of; simp only [app_len, sgn_len]; omega))) | fail "no")
local macro_rules | `(tactic| tm_at "rs") => `(tactic| first | ((with_reducible refine w_ixSF ?h ?i ?j (fun _ _ => ?_)); (case h => first | omega | decide); (case i => omega); (case j => first | omega | decide)) | fail "no")
local macro_rules | `(tactic| tm_at "rs") => `(tactic| first | with_reducible refine w_iSe ?_ | fail "no")
local macro_rules | `(tactic| tm_at "rs") => `(tactic| first | with_reducible refine w_iS ?_ | fail "no")
local macro_rules | `(tactic| tm_at "rs") => `(tactic| first | with_reducible refine w_notInS ?_ | fail "no")
local macro_rules | `(tactic| tm_at "rs") => `(tactic| first | with_reducible refine w_inS ?_ | fail "no")
local macro_rules | `(tactic| tm_at "rs") => `(tactic| first | with_reducible refine w_chE (fun _ => ?_) (fun _ => ?_) | fail "no")
local macro_rules | `(tactic| tm_at "rs") => `(tactic| first | with_reducible refine w_chain ?_ | fail "no")
local macro_rules | `(tactic| tm_at "rs") => `(tactic| first | ((with_reducible refine w_slS ?h (fun _ => ?_)); (case h => first | omega | (simp only [app_len, sgn_len]; omega))) | fail "no")
local macro_rules | `(tactic| tm_at "rs") => `(tactic| first | with_reducible refine w_isS ?_ | fail "no")
local macro_rules | `(tactic| tm_at "rs") => `(tactic| first | with_reducible refine w_join ?_ | fail "no")
/-! enumerate over a text -/
def ItSE (x : Str) : It :=
  ⟨fun i _ => i < x.cps.size, fun i H v H' => ∃ T c, v = .ref T ∧ H T = none ∧ H' = upd H T (.tup [.int (i : Nat), .str ⟨#[c]⟩]) ∧ x.cps[i]? = some c, fun i _ => x.cps.size = i⟩
def iSE (ta : TA) : TI := fun σ H R => ta σ H fun vs H1 => ∃ x, vs = [.str x] ∧ R (ItSE x) H1
def SEe (R : It → Hp → Prop) (vs : List V) (H1 : Hp) : Prop := ∃ x, vs = [.str x] ∧ R (ItSE x) H1
theorem w_iSE {σ : L2.St} {H : Hp} {ta : TA} {R : It → Hp → Prop} (k : ta σ H fun vs H1 => SEe R vs H1) : iSE ta σ H R := k
theorem w_iSEe {H : Hp} {R : It → Hp → Prop} {x : Str} (k : R (ItSE x) H) : SEe R [.str x] H := ⟨x, rfl, k⟩
/-- what is never reached -/
theorem ps_never {X : Cx} {st : Stmt} : PS X st (fun _ _ _ => False) := ⟨fun _ _ _ _ _ _ h => h.elim⟩
local macro_rules | `(tactic| tm_at "rs") => `(tactic| first | with_reducible refine w_iSEe ?_ | fail "no")
local macro_rules | `(tactic| tm_at "rs") => `(tactic| first | with_reducible refine w_iSE ?_ | fail "no")
/-! enumerate over a list -/
def EnE (K : PySem.W.Frag) (R : It → Hp → Prop) (vs : List V) (H1 : Hp) : Prop := ∃ a xs, vs = [.ref a] ∧ SqL K H1 a xs ∧ R (Ite K a) H1
theorem w_iEn {K : PySem.W.Frag} {σ : L2.St} {H : Hp} {ta : TA} {R : It → Hp → Prop} (k : ta σ H fun vs H1 => EnE K R vs H1) : iEnum K ta σ H R := k
theorem w_iEne {K : PySem.W.Frag} {H : Hp} {R : It → Hp → Prop} {a : Addr} {xs : List V} (h : SqL K H a xs) (k : R (Ite K a) H) : EnE K R [.ref a] H := ⟨a, xs, rfl, h, k⟩
theorem loopEn {σ : L2.St} {H : Hp} {D : Ends} {K : PySem.W.Frag} {g : TG} {tb : TS} {a : Addr} {xs : List V} (Pv : Nat → L2.St → Hp → Prop) (h0 : Pv 0 σ H) (hl : ∀ i σ H, i ≤ xs.length → Pv i σ H → SqL K H a xs)
    (hs : ∀ i x T σ H H', i < xs.length → xs[i]? = some x → Pv i σ H → H T = none → Sm H H' → H' T = some (.tup [.int (i : Nat), x]) → g (.ref T) σ H' fun σ2 H2 => tb (En (Pv (i + 1)) (RT D) (NX D) (Pv (i + 1))) σ2 H2)
    (hd : ∀ σ H, Pv xs.length σ H → NX D σ H) : Loop (Ite K a) g tb D σ H :=
  for_it walk_enum Pv h0 hl (fun i x σ H H' hi p y => by
    obtain ⟨T, u, v, rfl, hT, rfl, h1, h2⟩ := y
    cases h1
    exact hs i v T σ H _ hi h2 p hT (sm_new hT) upd_same) hd
theorem lcEn {σ : L2.St} {H : Hp} {Q : VK} {K : PySem.W.Frag} {g : TG} {tt : TT} {te : TE} {vs : List Nat} {a : Addr} {xs : List V} (Pv : Addr → Nat → Hp → Prop) (h0 : ∀ D H', H D = none → Sm H H' → H' D = some (.lst []) → Pv D 0 H')
    (hl : ∀ D i H', H D = none → i ≤ xs.length → Pv D i H' → SqL K H' a xs)
    (hs : ∀ D i x T H1 H', H D = none → i < xs.length → xs[i]? = some x → Pv D i H1 → H1 T = none → Sm H1 H' → H' T = some (.tup [.int (i : Nat), x]) → g (.ref T) (wipe σ vs) H' fun σ2 H2 => LcGo vs σ σ2 (tt σ2 H2 fun b H3 => if b = true then te σ2 H3 fun y H4 => LcEnd D y (Pv D (i + 1)) H4 else Pv D (i + 1) H3))
    (hd : ∀ D H', H D = none → Pv D xs.length H' → Q (.ref D) H') : LcL (Ite K a) g tt te vs σ H Q := fun D hD =>
  lc_it walk_enum (Pv D) (h0 D _ hD (sm_new hD) upd_same) (fun i H' hi p => hl D i H' hD hi p) (fun i x H1 H' hi p y => by
    obtain ⟨T, u, v, rfl, hT, rfl, h1, h2⟩ := y
    cases h1
    exact hs D i v T H1 _ hD hi h2 p hT (sm_new hT) upd_same) (fun H' p => hd D H' hD p)
local macro_rules | `(tactic| tm_at "rs") => `(tactic| first | ((with_reducible refine' w_iEne ?h ?k); (case h => tm_at "rsq")) | fail "no")
local macro_rules | `(tactic| tm_at "rs") => `(tactic| first | with_reducible refine w_iEn ?_ | fail "no")
/-! figures to a number -/
/-! a walk backwards -/
def RvE (K : PySem.W.Frag) (R : It → Hp → Prop) (v : V) (H1 : Hp) : Prop := ∃ (a : Addr) (xs : List V), v = .ref a ∧ ((SqL K H1 a xs ∧ R (Itv K a xs.length) H1) ∨ (SqT K H1 a xs ∧ R (_root_.RT.ItvT K a xs.length) H1))
theorem w_iRv {K : PySem.W.Frag} {σ : L2.St} {H : Hp} {te : TE} {R : It → Hp → Prop} (k : te σ H fun v H1 => RvE K R v H1) : _root_.RT.iRevA K te σ H R := k
theorem w_rep1 {H : Hp} {Q : VK} {l : Addr} {m j : Int} (h : H l = some (.lst [.int m])) (h0 : 0 ≤ j) (h1 : j ≤ 1000) (k : ∀ p H', H p = none → Sm H H' → H' p = some (.lst ((List.replicate j.toNat m).map V.int)) → Q (.ref p) H') : gMul (.ref l) (.int j) H Q := by
  refine .inr (.inr ⟨l, j, _, rfl, rfl, h, by omega, by omega, sz_of ?_, fun p hp => k p _ hp (sm_new hp) ?_⟩)
  · show 1 * j.toNat ≤ _
    omega
  · rw [upd_same, List.map_replicate, List.flatten_replicate_singleton]
theorem w_addInts {K : PySem.W.Frag} {H : Hp} {Q : VK} {l m : Addr} {ns ms : List Int} (h1 : H l = some (.lst (ns.map V.int))) (h2 : H m = some (.lst (ms.map V.int))) (z : ns.length + ms.length ≤ 1000) (k : ∀ p H', H p = none → Sm H H' → H' p = some (.lst ((ns ++ ms).map V.int)) → Q (.ref p) H') :
    gAdd K (.ref l) (.ref m) H Q := w_addL h1 h2 (sz_of (by rw [List.length_map, List.length_map]; omega)) fun p H' a b c => k p H' a b (by rw [List.map_append]; exact c)
theorem w_ix4P {K : PySem.W.Frag} {H : Hp} {Q : VK} {i : Int} {p : Addr} {x0 x1 x2 x3 : Int} (h : SqL K H p [.int x0, .int x1, .int x2, .int x3]) (h0 : 1 ≤ i) (h1 : i < 4) (k : ∀ z : Int, z = x1 ∨ z = x2 ∨ z = x3 → Q (.int z) H) : rIx K (.ref p) (.int i) H Q := by
  rcases (show i = 1 ∨ i = 2 ∨ i = 3 by omega) with rfl | rfl | rfl
  · exact w_ixL' h (atI_nat (j := 1) rfl) (k _ (by omega))
  · exact w_ixL' h (atI_nat (j := 2) rfl) (k _ (by omega))
  · exact w_ixL' h (atI_nat (j := 3) rfl) (k _ (by omega))
theorem w_gLstL {K : PySem.W.Frag} {H : Hp} {Q : VK} {p : Addr} {ys : List V} (h : SqL K H p ys) (k : ∀ l H', H l = none → Sm H H' → H' l = some (.lst ys) → Q (.ref l) H') : gLst K [.ref p] H Q := ⟨p, ys, rfl, .inl h, fun l hl => k l _ hl (sm_new hl) upd_same⟩
theorem w_gTplL {K : PySem.W.Frag} {H : Hp} {Q : VK} {p : Addr} {ys : List V} (h : SqL K H p ys) (k : ∀ l H', H l = none → Sm H H' → H' l = some (.tup ys) → Q (.ref l) H') : gTpl K [.ref p] H Q := ⟨p, ys, rfl, .inl ⟨h, fun l hl => k l _ hl (sm_new hl) upd_same⟩⟩
theorem dp_ints {K : PySem.W.Frag} {H : Hp} : ∀ ns : List Int, DpAll K H (ns.map V.int) (ns.map PyData.int)
  | [] => .nil
  | n :: ns => .cons (.int n) (dp_ints ns)
theorem w_neInts {K : PySem.W.Frag} {H : Hp} {Q : VK} {a b : Addr} {ns : List Int} (h1 : SqL K H a (ns.map V.int)) (h2 : SqL K H b (ns.map V.int)) (k : Q (.bl false) H) : gNe K (.ref a) (.ref b) H Q := by
  refine .inr ⟨.list (ns.map .int), .list (ns.map .int), .lst h1 (dp_ints ns), .lst h2 (dp_ints ns), PySem.W.ke_shaped_ints ns, PySem.W.ke_shaped_ints ns, ?_⟩
  have e : PyData.eqv (.list (ns.map .int)) (.list (ns.map .int)) = true := by
    rw [PyData.eqv, PySem.W.ked_eqvAll]
    exact decide_eq_true rfl
  rw [e]
  exact k
local macro_rules | `(tactic| tm_at "rs") => `(tactic| first | ((with_reducible refine' w_gLstL ?h (fun _ _ _ _ _ => ?k)); (case h => tm_at "rsq")) | fail "no")
local macro_rules | `(tactic| tm_at "rs") => `(tactic| first | ((with_reducible refine' w_gTplL ?h (fun _ _ _ _ _ => ?k)); (case h => tm_at "rsq")) | fail "no")
local macro_rules | `(tactic| tm_at "rs") => `(tactic| first | ((with_reducible refine' w_neInts ?h ?i ?k); (case h => tm_at "rsq"); (case i => tm_at "rsq")) | fail "no")
local macro_rules | `(tactic| tm_at "rs") => `(tactic| first | ((with_reducible refine' w_rep1 ?h ?i ?j (fun _ _ _ _ _ => ?k)); (case h => tm_at "rlk"); (case i => omega); (case j => omega)) | fail "no")
local macro_rules | `(tactic| tm_at "rs") => `(tactic| first | ((with_reducible refine' w_addInts ?h ?i ?z (fun _ _ _ _ _ => ?k)); (case h => tm_at "rlk"); (case i => tm_at "rlk"); (case z => (simp only [List.length_append, List.length_replicate]; omega))) | fail "no")
local macro_rules | `(tactic| tm_at "rs") => `(tactic| first | ((with_reducible refine' w_ix4P ?h ?a ?b (fun _ _ => ?k)); (case h => tm_at "rsq"); (case a => omega); (case b => omega)) | fail "no")
local macro_rules | `(tactic| tm_at "rs") => `(tactic| with_reducible refine w_iRv ?_)
/-! terms: nested pairs and triples -/
inductive Tm where
  | num (n : Nat)
  | name (s : Str)
  | op (w : Str) (a b : Tm)
def Tm.dep : Tm → Nat
  | .num _ => 0
  | .name _ => 0
  | .op _ a b => max a.dep b.dep + 1
def Tm.wt : Tm → Nat
  | .num _ => 1
  | .name _ => 1
  | .op _ a b => a.wt + b.wt + 2
def TmAt (K : PySem.W.Frag) (H : Hp) : Tm → V → Prop
  | .num n, v => ∃ p, v = .ref p ∧ TpK K H p [.str "num", .int (n : Int)]
  | .name s, v => ∃ p, v = .ref p ∧ TpK K H p [.str "name", .str s]
  | .op w a b, v => ∃ p x y, v = .ref p ∧ TpK K H p [.str w, x, y] ∧ TmAt K H a x ∧ TmAt K H b y
theorem TmAt.imp {K : PySem.W.Frag} {H H' : Hp} (h : Tk H H') : ∀ {t : Tm} {v : V}, TmAt K H t v → TmAt K H' t v
  | .num n, v, ⟨p, e, q⟩ => ⟨p, e, q.imp h⟩
  | .name s, v, ⟨p, e, q⟩ => ⟨p, e, q.imp h⟩
  | .op w a b, v, ⟨p, x, y, e, q, r1, r2⟩ => ⟨p, x, y, e, q.imp h, TmAt.imp h r1, TmAt.imp h r2⟩
theorem TmAt.tk {K : PySem.W.Frag} {H H' : Hp} {t : Tm} {v : V} (r : TmAt K H t v) (e : Tk H H') : TmAt K H' t v := r.imp e
theorem TmAt.sm {K : PySem.W.Frag} {H H' : Hp} {t : Tm} {v : V} (r : TmAt K H t v) (e : Sm H H') : TmAt K H' t v := r.imp (Tk.sm e)
theorem TmAt.kpL {K : PySem.W.Frag} {H H' : Hp} {t : Tm} {v : V} {b : Addr} {ys : List V} (r : TmAt K H t v) (hb : H b = some (.lst ys)) (e : Kp b H H') : TmAt K H' t v := r.imp (Tk.kp hb e)
theorem TmAt.kpD {K : PySem.W.Frag} {H H' : Hp} {t : Tm} {v : V} {b : Addr} {ys : List (Key × V)} (r : TmAt K H t v) (hb : H b = some (.dK ys)) (e : Kp b H H') : TmAt K H' t v := r.imp (Tk.kd hb e)
theorem tm_num {K : PySem.W.Frag} {H : Hp} {p : Addr} {n : Nat} (h : H p = some (.tup [.str "num", .int (n : Int)])) : TmAt K H (.num n) (.ref p) := ⟨p, rfl, .inl h⟩
theorem tm_name {K : PySem.W.Frag} {H : Hp} {p : Addr} {s : Str} (h : H p = some (.tup [.str "name", .str s])) : TmAt K H (.name s) (.ref p) := ⟨p, rfl, .inl h⟩
theorem tm_op {K : PySem.W.Frag} {H : Hp} {p : Addr} {w : Str} {x y : V} {a b : Tm} (h : H p = some (.tup [.str w, x, y])) (ha : TmAt K H a x) (hb : TmAt K H b y) : TmAt K H (.op w a b) (.ref p) := ⟨p, x, y, rfl, .inl h, ha, hb⟩
def cm (w : Str) (x y : Nat) : Nat := if w = "plus" then x + y else if w = "times" then x * y else x ^ y
def ev (g : Str → Nat) : Tm → Nat
  | .num n => n
  | .name s => g s
  | .op w a b => cm w (ev g a) (ev g b)
def PwOk (x y n : Nat) : Prop := y * (n - 1) < 1000000 ∧ ∃ r : Nat, x ^ y < 2 ^ r ∧ r ≤ 1000000
theorem pw_of {x y n : Nat} (hx : x < 2 ^ n) (n1 : 1 ≤ n) (h : n * y ≤ 1000000) : PwOk x y n := by
  rcases Nat.eq_zero_or_pos y with h0 | h0
  · subst h0
    refine ⟨by omega, 1, ?_, by decide⟩
    rw [Nat.pow_zero]
    decide
  · refine ⟨?_, n * y, ?_, h⟩
    · rw [Nat.mul_comm] at h
      rw [Nat.mul_sub, Nat.mul_one]
      have := Nat.le_mul_of_pos_right y (show 0 < n by omega)
      omega
    · rw [Nat.pow_mul]
      exact Nat.pow_lt_pow_left hx (by omega)
def CmOk (w : Str) (x y : Nat) : Prop := ∃ n : Nat, 1 ≤ n ∧ x < 2 ^ n ∧ ((w = "plus" ∧ y < 2 ^ n ∧ n + 1 ≤ 1000000) ∨ (w = "times" ∧ ∃ m : Nat, y < 2 ^ m ∧ n + m ≤ 1000000) ∨ (w ≠ "plus" ∧ w ≠ "times" ∧ PwOk x y n))
def TmOk (kvs : List (Key × V)) (g : Str → Nat) : Tm → Prop
  | .num n => ∃ m : Nat, n < 2 ^ m ∧ m ≤ 1000000
  | .name s => valV kvs (.inr s) = some (.int (g s : Nat)) ∧ ∃ m : Nat, g s < 2 ^ m ∧ m ≤ 1000000
  | .op w a b => w ≠ "num" ∧ w ≠ "name" ∧ TmOk kvs g a ∧ TmOk kvs g b ∧ CmOk w (ev g a) (ev g b)
/-! fields of an own object -/
def FldE (K : PySem.W.Frag) (f : Str) (Q : VK) (x : V) (H1 : Hp) : Prop := ∃ (a C dx : Addr) (fs : List (Str × V)) (v : V), x = .ref a ∧ H1 a = some (.ins C dx fs) ∧ Cls K C ∧ NoAttr K C f ∧ fs.lookup f = some v ∧ Q v H1
theorem w_fld {K : PySem.W.Frag} {f : Str} {σ : L2.St} {H : Hp} {Q : VK} {ta : TE} (k : ta σ H fun x H1 => FldE K f Q x H1) : tFld K ta f σ H Q := k
def SFldE (K : PySem.W.Frag) (f : Str) (D : Ends) (σ : L2.St) (x y : V) (H2 : Hp) : Prop := ∃ (a C dx : Addr) (fs : List (Str × V)), x = .ref a ∧ H2 a = some (.ins C dx fs) ∧ Cls K C ∧ NoAttr K C f ∧ fs.length < 1000 ∧ D.nx σ (upd H2 a (.ins C dx (putF f y fs)))
theorem w_sfld {K : PySem.W.Frag} {f : Str} {D : Ends} {σ : L2.St} {H : Hp} {ta tv : TE} (k : tv σ H fun y H1 => ta σ H1 fun x H2 => SFldE K f D σ x y H2) : sFld K ta tv f D σ H := k
theorem w_sfldE {K : PySem.W.Frag} {f : Str} {D : Ends} {σ : L2.St} {y : V} {H : Hp} {a C dx : Addr} {fs : List (Str × V)} (h : H a = some (.ins C dx fs)) (c : Cls K C) (n : NoAttr K C f) (l : fs.length < 1000) (k : ∀ H', Kp a H H' → H' a = some (.ins C dx (putF f y fs)) → NX D σ H') : SFldE K f D σ (.ref a) y H :=
  ⟨a, C, dx, fs, rfl, h, c, n, l, k _ kp_upd upd_same⟩
/-! a dict's items -/
def DgE (Q : VK) (x y : V) (H2 : Hp) : Prop := ∃ a v, x = .ref a ∧ DGet H2 a y (some v) ∧ Q v H2
theorem w_dg {td ty : TE} {σ : L2.St} {H : Hp} {Q : VK} (k : td σ H fun x H1 => ty σ H1 fun y H2 => DgE Q x y H2) : tDGet td ty σ H Q := k
theorem w_dge {H : Hp} {Q : VK} {a : Addr} {s : Str} {v : V} {kvs : List (Key × V)} (h : H a = some (.dK kvs)) (e : valV kvs (.inr s) = some v) (k : Q v H) : DgE Q (.ref a) (.str s) H := ⟨a, v, rfl, .inl ⟨kvs, .inr s, .inl h, rfl, e.symm⟩, k⟩
def DpE (D : Ends) (σ : L2.St) (v x y : V) (H3 : Hp) : Prop := ∃ a H4, x = .ref a ∧ DPut H3 a y v H4 ∧ D.nx σ H4
theorem w_dp {td ty tv : TE} {D : Ends} {σ : L2.St} {H : Hp} (k : tv σ H fun v H1 => td σ H1 fun x H2 => ty σ H2 fun y H3 => DpE D σ v x y H3) : sDPut td ty tv D σ H := k
theorem w_dpe {D : Ends} {σ : L2.St} {H : Hp} {a : Addr} {s : Str} {v : V} {kvs : List (Key × V)} (h : H a = some (.dK kvs)) (l : kvs.length < sizeLine) (k : ∀ H', Kp a H H' → H' a = some (.dK (putK kvs (.inr s) v)) → NX D σ H') : DpE D σ v (.ref a) (.str s) H :=
  ⟨a, _, rfl, .inl ⟨kvs, .inr s, h, rfl, l, rfl⟩, k _ kp_upd upd_same⟩
theorem w_dnew {σ : L2.St} {H : Hp} {Q : VK} (k : ∀ p H', H p = none → Sm H H' → H' p = some (.dK []) → Q (.ref p) H') : tDNewK σ H Q := fun p hp => k p _ hp (sm_new hp) upd_same
def NiE (K : PySem.W.Frag) (w : World) (Q : VK) (y x : V) (H2 : Hp) : Prop := ∃ a z v, x = .ref a ∧ y = .str z ∧ (a == sysModules) = false ∧ KDct K w a z v ∧ Q (.bl false) H2
theorem w_ni {K : PySem.W.Frag} {w : World} {ty td : TE} {σ : L2.St} {H : Hp} {Q : VK} (k : ty σ H fun y H1 => td σ H1 fun x H2 => NiE K w Q y x H2) : tNiK K w ty td σ H Q := k
theorem w_nie {K : PySem.W.Frag} {w : World} {Q : VK} {H : Hp} {a : Addr} {z : Str} {ks : List Str} (d : KDs K w a ks) (hz : z ∈ ks) (k : Q (.bl false) H) : NiE K w Q (.str z) (.ref a) H := by
  obtain ⟨v, hv⟩ := d.2 z hz
  exact ⟨a, z, v, rfl, rfl, d.1, hv, k⟩
/-! an own object made -/
def MkE (C : Addr) (sp : Sp) (Q : VK) (E : XK) (vs : List V) (H1 : Hp) : Prop := ∀ x dx, H1 x = none → H1 dx = none → dx ≠ x → sp (.ref x :: (vs ++ [])) (upd (upd H1 dx (.own x)) x (.ins C dx [])) (fun v H2 => v = .non ∧ Q (.ref x) H2) E
theorem w_make {C : Addr} {sp : Sp} {σ : L2.St} {H : Hp} {Q : VK} {E : XK} {t : TA} (k : t σ H fun vs H1 => MkE C sp Q E vs H1) : tMake C sp [] E t σ H Q := k
/-! the last of a list taken, lists made longer -/
theorem w_bm0 {K : PySem.W.Frag} {T : String} {r : V → List V → Hp → VK → Prop} {to : TE} {σ : L2.St} {H : Hp} {Q : VK} (k : to σ H fun x H1 => tyV K T x H1 ∧ r x [] H1 Q) : tBM0 K T r to σ H Q := k
theorem w_pop {K : PySem.W.Frag} {H : Hp} {Q : VK} {l : Addr} {xs : List V} {y : V} (h : H l = some (.lst (xs ++ [y]))) (k : ∀ H', Kp l H H' → H' l = some (.lst xs) → Q y H') : tyV K "list" (.ref l) H ∧ rPop (.ref l) [] H Q := by
  refine ⟨ty_list h, l, _, y, rfl, rfl, h, ?_, k _ kp_upd ?_⟩
  · rw [List.length_append, List.getElem?_append_right (by show xs.length ≤ xs.length + 1 - 1; omega)]
    show [y][xs.length + 1 - 1 - xs.length]? = some y
    rw [show xs.length + 1 - 1 - xs.length = 0 by omega]
    rfl
  · rw [upd_same, List.dropLast_concat]
theorem w_ext {H : Hp} {Q : VK} {l b : Addr} {xs zs : List V} (h : H l = some (.lst xs)) (hb : H b = some (.lst zs)) (z : xs.length + zs.length ≤ sizeLine) (k : ∀ H', Kp l H H' → H' l = some (.lst (xs ++ zs)) → Q .non H') : rExtend (.ref l) [.ref b] H Q :=
  ⟨l, b, xs, zs, rfl, rfl, h, hb, z, k _ kp_upd upd_same⟩
local macro_rules | `(tactic| tm_at "rs") => `(tactic| first | ((with_reducible refine' w_ext ?h ?i ?z (fun _ _ _ => ?k)); (case h => tm_at "rlk"); (case i => tm_at "rlk"); (case z => tm_at "rsz")) | fail "no")
local macro_rules | `(tactic| tm_at "rs") => `(tactic| first | ((with_reducible refine' w_pop ?h (fun _ _ _ => ?k)); (case h => tm_at "rlk")) | fail "no")
local macro_rules | `(tactic| tm_at "rs") => `(tactic| first | with_reducible refine w_bm0 ?_ | fail "no")
local macro_rules | `(tactic| tm_at "rs") => `(tactic| first | with_reducible refine w_make ?_ | fail "no")
local macro_rules | `(tactic| tm_at "rs") => `(tactic| first | with_reducible refine w_ni ?_ | fail "no")
local macro_rules | `(tactic| tm_at "rs") => `(tactic| first | with_reducible refine w_dnew (fun _ _ _ _ _ => ?_) | fail "no")
local macro_rules | `(tactic| tm_at "rs") => `(tactic| first | ((with_reducible refine' w_dpe ?h ?l (fun _ _ _ => ?k)); (case h => tm_at "rlk"); (case l => tm_at "rsz")) | fail "no")
local macro_rules | `(tactic| tm_at "rs") => `(tactic| first | with_reducible refine w_dp ?_ | fail "no")
local macro_rules | `(tactic| tm_at "rs") => `(tactic| first | ((with_reducible refine' w_dge ?h ?e ?k); (case h => tm_at "rlk"); (case e => assumption)) | fail "no")
local macro_rules | `(tactic| tm_at "rs") => `(tactic| first | with_reducible refine w_dg ?_ | fail "no")
local macro_rules | `(tactic| tm_at "rs") => `(tactic| first | with_reducible refine w_sfld ?_ | fail "no")
local macro_rules | `(tactic| tm_at "rs") => `(tactic| first | with_reducible refine w_fld ?_ | fail "no")
/-! bits of ints that are not negative -/
/-! bits of a number: how many, which -/
/-! choosing numbers -/
def ch : Nat → Nat → Nat
  | _, 0 => 1
  | 0, _ + 1 => 0
  | n + 1, k + 1 => ch n k + ch n (k + 1)
/-! figures of a power -/
theorem valV_has {kvs : List (Key × V)} {k : Key} : (valV kvs k).isSome = true ↔ ∃ p ∈ kvs, p.1 = k := by
  unfold valV
  rw [Option.isSome_map, List.find?_isSome]
  constructor
  · rintro ⟨p, h, e⟩; exact ⟨p, h, of_decide_eq_true e⟩
  · rintro ⟨p, h, e⟩; exact ⟨p, h, decide_eq_true e⟩
/-! a dict of pairs -/
def DNE (y x : V) (Q : VK) (H2 : Hp) : Prop := ∃ a o, x = .ref a ∧ DGet H2 a y o ∧ Q (.bl (!o.isSome)) H2
theorem w_dni {ty td : TE} {σ : L2.St} {H : Hp} {Q : VK} (k : ty σ H fun y H1 => td σ H1 fun x H2 => DNE y x Q H2) : tDNotIn ty td σ H Q := k
theorem w_dne {H : Hp} {Q : VK} {a : Addr} {i : Int} {kvs : List (Key × V)} (h : H a = some (.dK kvs)) (k : Q (.bl (!(valV kvs (.inl i)).isSome)) H) : DNE (.int i) (.ref a) Q H := ⟨a, _, rfl, .inl ⟨kvs, .inl i, .inl h, rfl, rfl⟩, k⟩
theorem u_one {n : Nat} (h : n + 64 < cLine) : n + 1 < cLine := by omega
theorem w_eqNil {K : PySem.W.Frag} {H : Hp} {Q : VK} {a b : Addr} {l : List Nat} (h1 : SqL K H a (l.map fun t => V.int ((t : Nat) : Int))) (h2 : SqL K H b []) (k : Q (.bl (decide (l = []))) H) : gEq K (.ref a) (.ref b) H Q := by
  have e1 : (l.map fun t => V.int ((t : Nat) : Int)) = (l.map fun t : Nat => ((t : Nat) : Int)).map V.int := by rw [List.map_map]; rfl
  rw [e1] at h1
  refine .inr ⟨.list ((l.map fun t : Nat => ((t : Nat) : Int)).map .int), .list (([] : List Int).map .int), .lst h1 (dp_ints _), .lst h2 .nil, PySem.W.ke_shaped_ints _, PySem.W.ke_shaped_ints _, ?_⟩
  have e : PyData.eqv (.list ((l.map fun t : Nat => ((t : Nat) : Int)).map .int)) (.list (([] : List Int).map .int)) = decide (l = []) := by
    rw [PyData.eqv, PySem.W.ked_eqvAll]
    cases l with
    | nil => rfl
    | cons x l => rfl
  rw [e]
  exact k
local macro_rules | `(tactic| tm_at "rs") => `(tactic| first | ((with_reducible refine' w_eqNil ?h ?i ?k); (case h => tm_at "rsq"); (case i => tm_at "rsq")) | fail "no")
local macro_rules | `(tactic| tm_at "rs") => `(tactic| first | ((with_reducible refine' w_dne ?h ?k); (case h => tm_at "rlk")) | fail "no")
local macro_rules | `(tactic| tm_at "rs") => `(tactic| first | with_reducible refine w_dni ?_ | fail "no")
/-! int(text) and str(int) beyond 640 figures, up to 4300 -/
/-! int(text, 2) of noughts and ones -/
/-! a number's bits as a text -/
def bl : Nat → List Nat
  | 0 => []
  | n + 1 => bl ((n + 1) / 2) ++ [48 + (n + 1) % 2]
termination_by n => n
decreasing_by omega
theorem str_ext {a b : Str} (h : a.cps.toList = b.cps.toList) : a = b := by
  cases a
  cases b
  congr 1
  exact Array.toList_inj.mp h
def sg (c : Nat) : Str := ⟨#[c]⟩
theorem app_tl (a b : Str) : (a ++ b).cps.toList = a.cps.toList ++ b.cps.toList := Array.toList_append
/-! lists of texts -/
def RevE (K : PySem.W.Frag) (Q : VK) (x : V) (H1 : Hp) : Prop := ∃ a xs, x = .ref a ∧ SqL K H1 a xs ∧ ∀ p, H1 p = none → Q (.ref p) (upd H1 p (.lst xs.reverse))
theorem w_revL {K : PySem.W.Frag} {σ : L2.St} {H : Hp} {Q : VK} {te : TE} (k : te σ H fun x H1 => RevE K Q x H1) : tRevL K te σ H Q := k
theorem w_revE {K : PySem.W.Frag} {H : Hp} {Q : VK} {a : Addr} {xs : List V} (h : SqL K H a xs) (k : ∀ p H', H p = none → Sm H H' → H' p = some (.lst xs.reverse) → Q (.ref p) H') : RevE K Q (.ref a) H := ⟨a, xs, rfl, h, fun p hp => k p _ hp (sm_new hp) upd_same⟩
/-! x or y, x a text -/
def OrS (K : PySem.W.Frag) (tb : TE) (σ : L2.St) (Q : VK) (x : V) (H1 : Hp) : Prop := ∃ k, TruV K x H1 k ∧ if k = true then Q x H1 else tb σ H1 Q
theorem w_orT {K : PySem.W.Frag} {ta tb : TE} {σ : L2.St} {H : Hp} {Q : VK} (k : ta σ H fun x H1 => OrS K tb σ Q x H1) : tOrT K ta tb σ H Q := k
/-! a nought, so often -/
local macro_rules | `(tactic| tm_at "rs") => `(tactic| first | with_reducible refine w_orT ?_ | fail "no")
local macro_rules | `(tactic| tm_at "rs") => `(tactic| first | ((with_reducible refine' w_revE ?h (fun _ _ _ _ _ => ?k)); (case h => tm_at "rsq")) | fail "no")
local macro_rules | `(tactic| tm_at "rs") => `(tactic| first | with_reducible refine w_revL ?_ | fail "no")
/-! texts of plain signs -/
def Low (z : Str) : Prop := ∀ c ∈ z.cps.toList, c < 128
theorem Low.app {a b : Str} (h : Low a) (k : Low b) : Low (a ++ b) := fun c hc => by
  rw [app_tl] at hc
  rcases List.mem_append.mp hc with hc | hc
  · exact h c hc
  · exact k c hc
/-! a dict of names and numbers -/
structure DicOk (kvs : List (Key × V)) (ys : List Str) (M : Nat) : Prop where
  nd : (kvs.map (·.1)).Nodup
  ok : ∀ p ∈ kvs, ∃ (s : Str) (n : Nat), p = (Sum.inr s, V.int (n : Nat)) ∧ n < M ∧ Low s
  has : ∀ y ∈ ys, ∃ p ∈ kvs, p.1 = Sum.inr y
def gOf (kvs : List (Key × V)) (s : Str) : Nat := match valV kvs (.inr s) with
  | some (.int i) => i.toNat
  | _ => 0
theorem valV_some {kvs : List (Key × V)} {k : Key} {v : V} (h : valV kvs k = some v) : (k, v) ∈ kvs := by
  unfold valV at h
  cases e : kvs.find? (fun kv => decide (kv.1 = k)) with
  | none => rw [e] at h; cases h
  | some p =>
    rw [e] at h
    cases h
    have h1 := List.find?_some e
    have h2 := List.mem_of_find?_eq_some e
    have h1 := of_decide_eq_true h1
    obtain ⟨a, b⟩ := p
    have h1 : a = k := h1
    subst h1
    exact h2
theorem DicOk.val {kvs : List (Key × V)} {ys : List Str} {M : Nat} (h : DicOk kvs ys M) {s : Str} (e : (valV kvs (.inr s)).isSome = true) : valV kvs (.inr s) = some (.int (gOf kvs s : Nat)) ∧ gOf kvs s < M := by
  obtain ⟨v, hv⟩ := Option.isSome_iff_exists.mp e
  obtain ⟨s', n, e1, hn, _⟩ := h.ok _ (valV_some hv)
  cases e1
  have hg : gOf kvs s = n := by
    unfold gOf
    rw [hv]
    rfl
  rw [hg]
  exact ⟨hv, hn⟩
theorem DicOk.at {kvs : List (Key × V)} {ys : List Str} {M : Nat} (h : DicOk kvs ys M) {y : Str} (hy : y ∈ ys) : valV kvs (.inr y) = some (.int (gOf kvs y : Nat)) ∧ gOf kvs y < M := h.val (valV_has.mpr (h.has y hy))
theorem DicOk.nil {M : Nat} : DicOk [] [] M := ⟨List.nodup_nil, (by intro p hp; cases hp), (by intro y hy; cases hy)⟩
theorem DicOk.up {kvs : List (Key × V)} {ys : List Str} {M M' : Nat} (h : DicOk kvs ys M) (l : M ≤ M') : DicOk kvs ys M' := ⟨h.nd, fun p hp => by
  obtain ⟨s, n, e, hn, hs⟩ := h.ok p hp
  exact ⟨s, n, e, by omega, hs⟩, h.has⟩
theorem putK_len {kvs : List (Key × V)} {k : Key} {v : V} : (putK kvs k v).length ≤ kvs.length + 1 := by
  unfold putK
  split
  · rw [List.length_map]; omega
  · rw [List.length_append]; exact Nat.le_refl _
/-! a dict copied, two dicts compared -/
def gDictD : List V → Hp → VK → Prop := fun xs H Q => ∃ (a : Addr) (kvs : List (Key × V)), xs = [.ref a] ∧ Rd H a (.dK kvs) ∧ ∀ p, H p = none → Q (.ref p) (upd H p (.dK kvs))
theorem w_dictD {H : Hp} {Q : VK} {a : Addr} {kvs : List (Key × V)} (h : H a = some (.dK kvs)) (k : ∀ p H', H p = none → Sm H H' → H' p = some (.dK kvs) → Q (.ref p) H') : gDictD [.ref a] H Q := ⟨a, kvs, rfl, .inl h, fun p hp => k p _ hp (sm_new hp) upd_same⟩
theorem valV_nd : ∀ {kvs : List (Key × V)} {p : Key × V}, (kvs.map (·.1)).Nodup → p ∈ kvs → valV kvs p.1 = some p.2
  | q :: r, p, hn, hp => by
    rw [List.map_cons, List.nodup_cons] at hn
    rcases List.mem_cons.mp hp with rfl | hp
    · exact valV_pos rfl
    · rw [valV_neg (fun e => hn.1 (by rw [e]; exact List.mem_map.mpr ⟨p, hp, rfl⟩))]
      exact valV_nd hn.2 hp
/-! a dict's items as a list, two such lists compared -/
def ItmE (Q : VK) (x : V) (H : Hp) : Prop := LiI.rItemsL x H Q
theorem w_itm {te : TE} {σ : L2.St} {H : Hp} {Q : VK} (k : te σ H fun x H1 => ItmE Q x H1) : LiI.tListItems te σ H Q := k
theorem w_itmE {H : Hp} {Q : VK} {d : Addr} {kvs : List (Key × V)} (h : H d = some (.dK kvs)) (k : ∀ (p : Addr) (ts : List Addr) (H' : Hp), H p = none → Sm H H' → H' p = some (.lst (ts.map V.ref)) → Paired (fun (t : Addr) (q : Key × V) => H' t = some (.tup [kV q.1, q.2])) ts kvs → Q (.ref p) H') : ItmE Q (.ref d) H :=
  ⟨d, kvs, rfl, h, fun H' p ts sm np _ _ g pr => k p ts H' np sm g pr⟩
local macro_rules | `(tactic| tm_at "rs") => `(tactic| first | ((with_reducible refine' w_dictD ?h (fun _ _ _ _ _ => ?k)); (case h => tm_at "rlk")) | fail "no")
local macro_rules | `(tactic| tm_at "rs") => `(tactic| first | ((with_reducible refine' w_itmE ?h (fun _ _ _ _ _ _ _ => ?k)); (case h => tm_at "rlk")) | fail "no")
local macro_rules | `(tactic| tm_at "rs") => `(tactic| first | with_reducible refine w_itm ?_ | fail "no")
/-! lists: slices by a number, pairs in step, sums -/
theorem cut_hi {xs : List V} {j : Int} (h0 : 0 ≤ j) : cutV xs none (some j) = xs.take j.toNat := by
  obtain ⟨k, rfl⟩ := Int.eq_ofNat_of_zero_le h0
  unfold cutV
  rw [HT.sIx_none, HT.sIx_nat, List.drop_zero, Nat.sub_zero, Int.toNat_natCast]
  rcases Nat.le_total k xs.length with h | h
  · rw [Nat.min_eq_left h]
  · rw [Nat.min_eq_right h, List.take_length, List.take_of_length_le h]
theorem cut_lo {xs : List V} {j : Int} (h0 : 0 ≤ j) : cutV xs (some j) none = xs.drop j.toNat := by
  obtain ⟨k, rfl⟩ := Int.eq_ofNat_of_zero_le h0
  unfold cutV
  rw [HT.sIx_none, HT.sIx_nat, Int.toNat_natCast]
  rcases Nat.le_total k xs.length with h | h
  · rw [Nat.min_eq_left h, List.take_of_length_le (by rw [List.length_drop]; exact Nat.le_refl _)]
  · rw [Nat.min_eq_right h, List.drop_length, List.take_nil, List.drop_of_length_le h]
/-! both ways of an if lead to one place -/
/-! rows of a program -/
inductive Rw where
  | up (j : Nat)
  | dn (j : Nat)
  | br (j g : Nat)
  | go (g : Nat)
  | st
deriving DecidableEq
def Rw.vs : Rw → List V
  | .up j => [.str "raise", .int (j : Int)]
  | .dn j => [.str "lower", .int (j : Int)]
  | .br j g => [.str "if", .int (j : Int), .int (g : Int)]
  | .go g => [.str "go", .int (g : Int)]
  | .st => [.str "stop"]
def Rw.ds : Rw → List PyData
  | .up j => [.str "raise", .int (j : Int)]
  | .dn j => [.str "lower", .int (j : Int)]
  | .br j g => [.str "if", .int (j : Int), .int (g : Int)]
  | .go g => [.str "go", .int (g : Int)]
  | .st => [.str "stop"]
theorem Rw.tpl {H : Hp} : ∀ r : Rw, TpL H r.ds r.vs
  | .up _ => tpl_cons tpd_s (tpl_cons tpd_i tpl_nil)
  | .dn _ => tpl_cons tpd_s (tpl_cons tpd_i tpl_nil)
  | .br _ _ => tpl_cons tpd_s (tpl_cons tpd_i (tpl_cons tpd_i tpl_nil))
  | .go _ => tpl_cons tpd_s (tpl_cons tpd_i tpl_nil)
  | .st => tpl_cons tpd_s tpl_nil
def Rw.ok (b n : Nat) : Rw → Prop
  | .up j => j < b
  | .dn j => j < b
  | .br j g => j < b ∧ g < n
  | .go g => g < n
  | .st => True
theorem Rw.ok_up {b n n' : Nat} (l : n ≤ n') : ∀ {r : Rw}, r.ok b n → r.ok b n'
  | .up _, h => h
  | .dn _, h => h
  | .br _ _, h => ⟨h.1, Nat.lt_of_lt_of_le h.2 l⟩
  | .go _, h => Nat.lt_of_lt_of_le h l
  | .st, h => h
def Rw.ends : Rw → Prop
  | .go _ => True
  | .st => True
  | _ => False
def RwAt (H : Hp) (v : V) (r : Rw) : Prop := ∃ p, v = .ref p ∧ H p = some (.tup r.vs)
theorem RwAt.tk {H H' : Hp} {v : V} {r : Rw} (h : RwAt H v r) (e : Tk H H') : RwAt H' v r := by
  obtain ⟨p, rfl, q⟩ := h
  exact ⟨p, rfl, e _ _ q⟩
abbrev RwsAt (H : Hp) (vs : List V) (rs : List Rw) : Prop := Paired (RwAt H) vs rs
theorem RwsAt.tk {H H' : Hp} {vs : List V} {rs : List Rw} (h : RwsAt H vs rs) (e : Tk H H') : RwsAt H' vs rs := paired_mono (fun _ _ q => q.tk e) h
def RwsOk (b n : Nat) (rs : List Rw) : Prop := ∀ r ∈ rs, r.ok b n
theorem RwsOk.up {b n n' : Nat} {rs : List Rw} (h : RwsOk b n rs) (l : n ≤ n') : RwsOk b n' rs := fun r hr => Rw.ok_up l (h r hr)
theorem RwsOk.app {b n : Nat} {rs qs : List Rw} (h : RwsOk b n rs) (k : RwsOk b n qs) : RwsOk b n (rs ++ qs) := fun r hr => by
  rcases List.mem_append.mp hr with hr | hr
  · exact h r hr
  · exact k r hr
theorem RwsOk.nil {b n : Nat} : RwsOk b n [] := fun r hr => by cases hr
theorem RwsOk.one {b n : Nat} {r : Rw} (o : r.ok b n) : RwsOk b n [r] := fun q hq => by
  rw [List.mem_singleton.mp hq]
  exact o
theorem RwsOk.cons {b n : Nat} {r : Rw} {rs : List Rw} (o : r.ok b n) (h : RwsOk b n rs) : RwsOk b n (r :: rs) := fun q hq => by
  rcases List.mem_cons.mp hq with rfl | hq
  · exact o
  · exact h q hq
theorem rw_one {H : Hp} {p : Addr} {r : Rw} (h : H p = some (.tup r.vs)) : RwAt H (.ref p) r := ⟨p, rfl, h⟩
/-- the rows of a program of b boxes -/
structure Prg (b : Nat) (rs : List Rw) : Prop where
  b1 : 1 ≤ b
  b5 : b ≤ 5
  ok : RwsOk b rs.length rs
  len : rs.length ≤ 14
  fin : ∃ us r, rs = us ++ [r] ∧ r.ends
theorem Prg.pos {b : Nat} {rs : List Rw} (h : Prg b rs) : 1 ≤ rs.length := by
  obtain ⟨us, v, q, z⟩ := h.fin
  rw [q, List.length_append]
  exact Nat.le_add_left 1 _
/-- a program's own object -/
def PrC (K : PySem.W.Frag) (C : Addr) : Prop := ClsN K "Program" C ["boxes", "rows"]
def PrgAt (K : PySem.W.Frag) (H : Hp) (v : V) (b : Nat) (rs : List Rw) : Prop := ∃ p C dx t vs, v = .ref p ∧ PrC K C ∧ H p = some (.ins C dx [("boxes", .int (b : Nat)), ("rows", .ref t)]) ∧ H t = some (.tup vs) ∧ RwsAt H vs rs
theorem PrgAt.sm {K : PySem.W.Frag} {H H' : Hp} {v : V} {b : Nat} {rs : List Rw} (h : PrgAt K H v b rs) (e : Sm H H') : PrgAt K H' v b rs := by
  obtain ⟨p, C, dx, t, vs, rfl, c, q, ht, hr⟩ := h
  exact ⟨p, C, dx, t, vs, rfl, c, e _ _ q, e _ _ ht, hr.tk (Tk.sm e)⟩
theorem PrgAt.kp {K : PySem.W.Frag} {H H' : Hp} {v : V} {b : Nat} {rs : List Rw} {a : Addr} {ys : List V} (h : PrgAt K H v b rs) (ha : H a = some (.lst ys)) (e : Kp a H H') : PrgAt K H' v b rs := by
  obtain ⟨p, C, dx, t, vs, rfl, c, q, ht, hr⟩ := h
  exact ⟨p, C, dx, t, vs, rfl, c, e _ _ (by intro z; rw [z, ha] at q; cases q) q, Tk.kp ha e _ _ ht, hr.tk (Tk.kp ha e)⟩
theorem PrgAt.kb {K : PySem.W.Frag} {H H' : Hp} {v : V} {b : Nat} {rs : List Rw} {a : Addr} (h : PrgAt K H v b rs) (ha : BoxAt H a) (e : Kp a H H') : PrgAt K H' v b rs := by
  obtain ⟨x, s, hb, _⟩ := ha
  exact h.kp hb e
local macro_rules | `(tactic| tm_at "rpg") => `(tactic| first | with_reducible assumption | ((refine' PrgAt.sm ?sa ?sb); (case sb => with_reducible assumption); (case sa => tm_at "rpg")) | ((refine' PrgAt.kb ?sa ?sc ?sb); (case sb => with_reducible assumption); (case sc => tm_at "rbx"); (case sa => tm_at "rpg")) | ((refine' PrgAt.kp ?sa ?sc ?sb); (case sb => with_reducible assumption); (case sc => tm_at "rlk"); (case sa => tm_at "rpg")) | fail "no")
theorem w_fBoxes {K : PySem.W.Frag} {H : Hp} {Q : VK} {v : V} {b : Nat} {rs : List Rw} (h : PrgAt K H v b rs) (k : Q (.int (b : Nat)) H) : FldE K "boxes" Q v H := by
  obtain ⟨p, C, dx, t, vs, rfl, c, q, ht, hr⟩ := h
  exact ⟨p, C, dx, _, _, rfl, q, c.cl, c.na _ (by simp), rfl, k⟩
theorem w_fRows {K : PySem.W.Frag} {H : Hp} {Q : VK} {v : V} {b : Nat} {rs : List Rw} (h : PrgAt K H v b rs) (k : ∀ t vs, H t = some (.tup vs) → RwsAt H vs rs → Q (.ref t) H) : FldE K "rows" Q v H := by
  obtain ⟨p, C, dx, t, vs, rfl, c, q, ht, hr⟩ := h
  exact ⟨p, C, dx, _, _, rfl, q, c.cl, c.na _ (by simp), rfl, k t vs ht hr⟩
local macro_rules | `(tactic| tm_at "rs") => `(tactic| first | ((with_reducible refine' w_fRows ?h (fun _ _ _ _ => ?k)); (case h => tm_at "rpg")) | fail "no")
local macro_rules | `(tactic| tm_at "rs") => `(tactic| first | ((with_reducible refine' w_fBoxes ?h ?k); (case h => tm_at "rpg")) | fail "no")
/-! a row's word -/
def Rw.word : Rw → Str
  | .up _ => "raise"
  | .dn _ => "lower"
  | .br _ _ => "if"
  | .go _ => "go"
  | .st => "stop"
theorem Rw.vs_word (r : Rw) : ∃ l, r.vs = .str r.word :: l := by cases r <;> exact ⟨_, rfl⟩
theorem w_ixRow {K : PySem.W.Frag} {H : Hp} {Q : VK} {p : Addr} {vs : List V} {rs : List Rw} {k : Nat} {r : Rw} (h : SqL K H p vs ∨ SqT K H p vs) (hr : RwsAt H vs rs) (hk : rs[k]? = some r) (q : ∀ t, H t = some (.tup r.vs) → Q (.ref t) H) : rIx K (.ref p) (.int (k : Int)) H Q := by
  obtain ⟨v, e1, t, rfl, ht⟩ := paired_getR hr hk
  rcases h with h | h
  · exact w_ixL' h (atI_nat e1) (q t ht)
  · exact w_ixT h (atI_nat e1) (q t ht)
/-! one step -/
def aftr (rs : List Rw) (k : Nat) (cs : List Nat) : Option (Nat × List Nat) :=
  match rs[k]? with
  | some (.up j) => some (k + 1, cs.set j (cs.getD j 0 + 1))
  | some (.dn j) => if cs.getD j 0 = 0 then none else some (k + 1, cs.set j (cs.getD j 0 - 1))
  | some (.br j g) => some (if cs.getD j 0 = 0 then g else k + 1, cs)
  | some (.go g) => some (g, cs)
  | _ => none
theorem aft_up {rs : List Rw} {k j : Nat} {cs : List Nat} (h : rs[k]? = some (.up j)) : aftr rs k cs = some (k + 1, cs.set j (cs.getD j 0 + 1)) := by
  unfold aftr
  rw [h]
theorem aft_dn0 {rs : List Rw} {k j : Nat} {cs : List Nat} (h : rs[k]? = some (.dn j)) (z : cs.getD j 0 = 0) : aftr rs k cs = none := by
  unfold aftr
  rw [h]
  exact if_pos z
theorem aft_dn {rs : List Rw} {k j : Nat} {cs : List Nat} (h : rs[k]? = some (.dn j)) (z : cs.getD j 0 ≠ 0) : aftr rs k cs = some (k + 1, cs.set j (cs.getD j 0 - 1)) := by
  unfold aftr
  rw [h]
  exact if_neg z
theorem aft_br0 {rs : List Rw} {k j g : Nat} {cs : List Nat} (h : rs[k]? = some (.br j g)) (z : cs.getD j 0 = 0) : aftr rs k cs = some (g, cs) := by
  unfold aftr
  rw [h]
  show some (if cs.getD j 0 = 0 then g else k + 1, cs) = _
  rw [if_pos z]
theorem aft_br {rs : List Rw} {k j g : Nat} {cs : List Nat} (h : rs[k]? = some (.br j g)) (z : cs.getD j 0 ≠ 0) : aftr rs k cs = some (k + 1, cs) := by
  unfold aftr
  rw [h]
  show some (if cs.getD j 0 = 0 then g else k + 1, cs) = _
  rw [if_neg z]
theorem aft_go {rs : List Rw} {k g : Nat} {cs : List Nat} (h : rs[k]? = some (.go g)) : aftr rs k cs = some (g, cs) := by
  unfold aftr
  rw [h]
theorem aft_st {rs : List Rw} {k : Nat} {cs : List Nat} (h : rs[k]? = some .st) : aftr rs k cs = none := by
  unfold aftr
  rw [h]
theorem nV_at {cs : List Nat} {j : Nat} (h : j < cs.length) : atI (nV cs) (j : Int) = some (.int (cs.getD j 0 : Nat)) := by
  refine atI_nat (nV_get ?_)
  rw [List.getD_eq_getElem?_getD, List.getElem?_eq_getElem h]
  rfl
theorem set_cut {cs : List Nat} {j : Nat} {c : Nat} (h : j < cs.length) : nV (cs.set j c) = (nV cs).take j ++ (V.int (c : Nat) :: (nV cs).drop (j + 1)) := by
  rw [List.set_eq_take_append_cons_drop, if_pos h, nV_take, nV_drop, nV_app]
  rfl
/-- contents put together anew -/
theorem set_cat {cs : List Nat} {j : Nat} {c : Int} {n : Nat} (h : j < cs.length) (e : c = (n : Nat)) : cutV (nV cs) none (some (j : Int)) ++ [V.int c] ++ cutV (nV cs) (some ((j : Int) + 1)) none = nV (cs.set j n) := by
  rw [cut_hi (by omega), cut_lo (by omega), set_cut h, e, Int.toNat_natCast, show ((j : Int) + 1).toNat = j + 1 by omega, List.append_assoc]
  rfl
theorem cut_len {xs : List V} {lo hi : Option Int} : (cutV xs lo hi).length ≤ xs.length := by
  unfold cutV
  rw [List.length_take, List.length_drop]
  omega
def StdAt (H : Hp) (v : V) (k : Nat) (cs : List Nat) : Prop := ∃ p t, v = .ref p ∧ H p = some (.tup [.int (k : Nat), .ref t]) ∧ H t = some (.tup (nV cs))
theorem StdAt.tk {H H' : Hp} {v : V} {k : Nat} {cs : List Nat} (h : StdAt H v k cs) (e : Tk H H') : StdAt H' v k cs := by
  obtain ⟨p, t, rfl, a, b⟩ := h
  exact ⟨p, t, rfl, e _ _ a, e _ _ b⟩
def OStd (H : Hp) (v : V) : Option (Nat × List Nat) → Prop
  | none => v = .non
  | some (k, cs) => StdAt H v k cs
theorem OStd.tk {H H' : Hp} {v : V} : ∀ {o : Option (Nat × List Nat)}, OStd H v o → Tk H H' → OStd H' v o
  | none, h, _ => h
  | some (_, _), h, e => StdAt.tk h e
/-! the table of words -/
def Rw.kinds : Rw → List Str
  | .up _ => [Str.ofString "box"]
  | .dn _ => [Str.ofString "box"]
  | .br _ _ => [Str.ofString "box", Str.ofString "goal"]
  | .go _ => [Str.ofString "goal"]
  | .st => []
abbrev shpL : List (Str × List Str) := [(Str.ofString "raise", [Str.ofString "box"]), (Str.ofString "lower", [Str.ofString "box"]), (Str.ofString "if", [Str.ofString "box", Str.ofString "goal"]), (Str.ofString "go", [Str.ofString "goal"]), (Str.ofString "stop", [])]
theorem Rw.shp : ∀ r : Rw, (r.word, r.kinds) ∈ shpL
  | .up _ => List.mem_cons_self
  | .dn _ => List.mem_cons_of_mem _ List.mem_cons_self
  | .br _ _ => List.mem_cons_of_mem _ (List.mem_cons_of_mem _ List.mem_cons_self)
  | .go _ => List.mem_cons_of_mem _ (List.mem_cons_of_mem _ (List.mem_cons_of_mem _ List.mem_cons_self))
  | .st => List.mem_cons_of_mem _ (List.mem_cons_of_mem _ (List.mem_cons_of_mem _ (List.mem_cons_of_mem _ List.mem_cons_self)))
theorem Rw.tail_int (r : Rw) : ∀ x ∈ r.vs.drop 1, ∃ n : Nat, x = .int (n : Nat) := by
  intro x hx
  cases r
  all_goals
    simp only [Rw.vs, List.drop_succ_cons, List.drop_zero, List.mem_cons, List.not_mem_nil, or_false] at hx
  all_goals first | exact ⟨_, hx⟩ | (rcases hx with h | h <;> exact ⟨_, h⟩)
theorem w_nieT {K : PySem.W.Frag} {w : World} {Q : VK} {H : Hp} {a : Addr} {l : List (Str × List Str)} {z : Str × List Str} (d : KDt K w a l) (hz : z ∈ l) (k : Q (.bl false) H) : NiE K w Q (.str z.1) (.ref a) H := by
  obtain ⟨t, hv, _⟩ := d.2 z hz
  exact ⟨a, z.1, _, rfl, rfl, d.1, hv, k⟩
def KgE (K : PySem.W.Frag) (w : World) (Q : VK) (x y : V) (H2 : Hp) : Prop := ∃ a z v, x = .ref a ∧ y = .str z ∧ (a == sysModules) = false ∧ KDct K w a z v ∧ Q v H2
theorem w_kg {K : PySem.W.Frag} {w : World} {td ty : TE} {σ : L2.St} {H : Hp} {Q : VK} (k : td σ H fun x H1 => ty σ H1 fun y H2 => KgE K w Q x y H2) : tKGet K w td ty σ H Q := k
theorem w_kge {K : PySem.W.Frag} {w : World} {Q : VK} {H : Hp} {a : Addr} {l : List (Str × List Str)} {z : Str × List Str} (d : KDt K w a l) (hz : z ∈ l) (k : ∀ t, SqT K H t (z.2.map V.str) → Q (.ref t) H) : KgE K w Q (.ref a) (.str z.1) H := by
  obtain ⟨t, hv, hs⟩ := d.2 z hz
  exact ⟨a, z.1, _, rfl, rfl, d.1, hv, k t (hs H)⟩
local macro_rules | `(tactic| tm_at "rs") => `(tactic| first | with_reducible refine w_kg ?_ | fail "no")
theorem w_kgA {K : PySem.W.Frag} {w : World} {Q : VK} {H : Hp} {a : Addr} {l : List (Str × List Str)} {z : Str × List Str} (d : KDt K w a l) (hz : z ∈ l) (k : ∀ t, (∀ H, SqT K H t (z.2.map V.str)) → Q (.ref t) H) : KgE K w Q (.ref a) (.str z.1) H := by
  obtain ⟨t, hv, hs⟩ := d.2 z hz
  exact ⟨a, z.1, _, rfl, rfl, d.1, hv, k t hs⟩
local macro_rules | `(tactic| tm_at "rrw") => `(tactic| first | with_reducible assumption | ((refine' RwsAt.tk ?sa ?sb); (case sa => with_reducible assumption); (case sb => tm_at "rtk")) | fail "no")
local macro_rules | `(tactic| tm_at "rstd") => `(tactic| first | with_reducible assumption | ((refine' StdAt.tk ?sa ?sb); (case sa => with_reducible assumption); (case sb => tm_at "rtk")) | fail "no")
theorem Rw.word_st (r : Rw) : r.word = Str.ofString "stop" ↔ r = .st := by
  cases r
  · exact ⟨fun h => absurd (show Str.ofString "raise" = Str.ofString "stop" from h) (by decide +kernel), fun h => by cases h⟩
  · exact ⟨fun h => absurd (show Str.ofString "lower" = Str.ofString "stop" from h) (by decide +kernel), fun h => by cases h⟩
  · exact ⟨fun h => absurd (show Str.ofString "if" = Str.ofString "stop" from h) (by decide +kernel), fun h => by cases h⟩
  · exact ⟨fun h => absurd (show Str.ofString "go" = Str.ofString "stop" from h) (by decide +kernel), fun h => by cases h⟩
  · exact ⟨fun _ => rfl, fun _ => rfl⟩
local macro_rules | `(tactic| tm_at "rs") => `(tactic| first | ((with_reducible refine' w_ixRow ?h ?i ?j (fun _ _ => ?k)); (case i => tm_at "rrw"); (case h => first | exact .inl (by tm_at "rsq") | exact .inr (by tm_at "rst")); (case j => assumption)) | fail "no")
theorem TmAt.kpB {K : PySem.W.Frag} {H H' : Hp} {t : Tm} {v : V} {b : Addr} (r : TmAt K H t v) (hb : BoxAt H b) (e : Kp b H H') : TmAt K H' t v := by
  obtain ⟨x, s, hb, _⟩ := hb
  exact r.kpL hb e
theorem w_ixStrs {K : PySem.W.Frag} {H : Hp} {Q : VK} {p : Addr} {ys : List Str} {i : Int} (h : SqL K H p (ys.map V.str)) (i0 : 0 ≤ i) (i1 : i < (ys.length : Int)) (k : ∀ s ∈ ys, Q (.str s) H) : rIx K (.ref p) (.int i) H Q := by
  obtain ⟨j, rfl⟩ := Int.eq_ofNat_of_zero_le i0
  have hj : j < ys.length := by omega
  exact w_ixL h (atI_nat (j := j) (by rw [List.getElem?_map, List.getElem?_eq_getElem hj]; rfl)) (k _ (List.getElem_mem hj))
local macro_rules | `(tactic| tm_at "rtm") => `(tactic| first | with_reducible assumption | ((refine' TmAt.sm ?sa ?sb); (case sb => with_reducible assumption); (case sa => tm_at "rtm")) | ((refine' TmAt.kpB ?sa ?sc ?sb); (case sb => with_reducible assumption); (case sc => tm_at "rbx"); (case sa => tm_at "rtm")) | ((refine' TmAt.kpL ?sa ?sc ?sb); (case sb => with_reducible assumption); (case sc => tm_at "rlk"); (case sa => tm_at "rtm")) | ((refine' TmAt.kpD ?sa ?sc ?sb); (case sb => with_reducible assumption); (case sc => tm_at "rlk"); (case sa => tm_at "rtm")) | fail "no")
/-! repr of lists and tuples, where nothing is being shown -/
theorem w_isiLst {K : PySem.W.Frag} {H : Hp} {Q : VK} {a : Addr} {xs : List V} (h : H a = some (.lst xs)) (k : Q (.bl true) H) : rIsi K [.ref a, .ty "list"] H Q := ⟨_, _, _, _, _, rfl, .ty _, .base (.lst h), kit_ty (by decide +kernel), k⟩
local macro_rules | `(tactic| tm_at "rs") => `(tactic| first | ((with_reducible refine' w_isiLst ?h ?k); (case h => tm_at "rlk")) | fail "no")
/-! data that can be shown: so deep, so many -/
structure ShD (d : PyData) (D N : Nat) : Prop where
  sh : d.showable = true
  nd : d.hasDict = false
  lv : d.leavesShort 600 = true
  dp : d.depth ≤ D
  bk : d.bulk ≤ N
structure ShL (ds : List PyData) (D N : Nat) : Prop where
  sh : PyData.showableAll ds = true
  nd : PyData.hasDictAll ds = false
  lv : PyData.leavesShortAll 600 ds = true
  dp : PyData.depthAll ds ≤ D
  bk : PyData.bulkAll ds ≤ N
theorem ShD.int {n : Int} {D : Nat} (h : n.natAbs < 10 ^ 500) : ShD (.int n) D 0 := by
  have e := int_text_length_le10 (k := 500) (by decide) h
  have hs : (PyData.shown (.int n)).length ≤ 600 := by
    show (Str.ofString (toString n)).length ≤ 600
    rw [PySem.ofString_length]
    omega
  have hl : n.natAbs.log2 < 1920 := PySem.Spec.log2_small (Nat.lt_of_lt_of_le h (by decide +kernel))
  exact ⟨by simp [PyData.showable, hl], by simp [PyData.hasDict], by simp [PyData.leavesShort, hs], by simp [PyData.depth], by simp [PyData.bulk]⟩
theorem ShD.str {x : Str} {D : Nat} (h : ∀ c ∈ x.cps.toList, c < 16 ^ 8) : ShD (.str x) D x.length := by
  refine ⟨by simp [PyData.showable], by simp [PyData.hasDict], ?_, by simp [PyData.depth], by simp [PyData.bulk]; exact Nat.le_refl _⟩
  simp only [PyData.leavesShort, List.all_eq_true, decide_eq_true_eq]
  exact h
theorem ShD.none {D : Nat} : ShD .none D 0 := ⟨rfl, rfl, rfl, by simp [PyData.depth], by simp [PyData.bulk]⟩
theorem ShL.nil {D : Nat} : ShL [] D 0 := ⟨rfl, rfl, rfl, by simp [PyData.depthAll], by simp [PyData.bulkAll]⟩
theorem ShL.cons {d : PyData} {ds : List PyData} {D N M : Nat} (h : ShD d D N) (k : ShL ds D M) : ShL (d :: ds) D (N + 1 + M) :=
  ⟨by simp [PyData.showableAll, h.sh, k.sh], by simp [PyData.hasDictAll, h.nd, k.nd], by simp [PyData.leavesShortAll, h.lv, k.lv], by
    have a := h.dp
    have b := k.dp
    simp only [PyData.depthAll]
    omega, by
    have a := h.bk
    have b := k.bk
    simp only [PyData.bulkAll]
    omega⟩
theorem ShL.up {ds : List PyData} {D D' N N' : Nat} (h : ShL ds D N) (a : D ≤ D') (b : N ≤ N') : ShL ds D' N' := ⟨h.sh, h.nd, h.lv, Nat.le_trans h.dp a, Nat.le_trans h.bk b⟩
theorem ShD.up {d : PyData} {D D' N N' : Nat} (h : ShD d D N) (a : D ≤ D') (b : N ≤ N') : ShD d D' N' := ⟨h.sh, h.nd, h.lv, Nat.le_trans h.dp a, Nat.le_trans h.bk b⟩
theorem ShL.tup {ds : List PyData} {D N : Nat} (h : ShL ds D N) : ShD (.tuple ds) (D + 1) N :=
  ⟨by simp [PyData.showable, h.sh], by simp [PyData.hasDict, h.nd], by simp [PyData.leavesShort, h.lv], by
    have a := h.dp
    simp only [PyData.depth]
    omega, by
    have b := h.bk
    simp only [PyData.bulk]
    omega⟩
theorem ShL.lst {ds : List PyData} {D N : Nat} (h : ShL ds D N) : ShD (.list ds) (D + 1) N :=
  ⟨by simp [PyData.showable, h.sh], by simp [PyData.hasDict, h.nd], by simp [PyData.leavesShort, h.lv], by
    have a := h.dp
    simp only [PyData.depth]
    omega, by
    have b := h.bk
    simp only [PyData.bulk]
    omega⟩
theorem ShL.all {D N : Nat} : ∀ {ds : List PyData}, (∀ d ∈ ds, ShD d D N) → ShL ds D (ds.length * (N + 1))
  | [], _ => by
    rw [List.length_nil, Nat.zero_mul]
    exact ShL.nil
  | d :: ds, h => by
    have a := ShL.cons (h d List.mem_cons_self) (ShL.all (ds := ds) fun x hx => h x (List.mem_cons_of_mem _ hx))
    refine a.up (Nat.le_refl _) ?_
    rw [List.length_cons, Nat.succ_mul]
    omega
theorem ShD.len {d : PyData} {D N : Nat} (h : ShD d D N) (b : N ≤ 27000) : d.shown.length ≤ sizeLine := by
  have e := PyData.shown_le_bulk 600 (by decide) d h.lv
  have e2 : (600 + 2) * d.bulk ≤ 602 * 27000 := Nat.mul_le_mul_left _ (Nat.le_trans h.bk b)
  have e3 : 602 * 27000 + 600 ≤ sizeLine := by decide
  omega
/-! stands shown -/
def oD : Option (Nat × List Nat) → PyData
  | none => .none
  | some (k, cs) => .tuple [.int (k : Nat), .tuple (nD cs)]
theorem StdAt.tpd {H : Hp} {v : V} {k : Nat} {cs : List Nat} (h : StdAt H v k cs) : TpD H (oD (some (k, cs))) v := by
  obtain ⟨p, t, rfl, a, b⟩ := h
  exact tpd_t a (tpl_cons tpd_i (tpl_cons (tpd_t b (tpl_nat cs)) tpl_nil))
/-- where a step leads -/
theorem aft_ok {b : Nat} {rs : List Rw} {k n M : Nat} {cs es : List Nat} (hg : Prg b rs) (hc : cs.length = b) (hM : ∀ c ∈ cs, c ≤ M) (e : aftr rs k cs = some (n, es)) : n ≤ 14 ∧ es.length = b ∧ (∀ c ∈ es, c ≤ M + 1) ∧ n ≤ rs.length := by
  have h14 := hg.len
  cases hk : rs[k]? with
  | none =>
    unfold aftr at e
    rw [hk] at e
    cases e
  | some r =>
    have hro := hg.ok r (List.mem_of_getElem? hk)
    have hkl : k < rs.length := (List.getElem?_eq_some_iff.mp hk).1
    have up : ∀ c ∈ cs, c ≤ M + 1 := fun c hc => Nat.le_succ_of_le (hM c hc)
    have hgd : ∀ j, cs.getD j 0 ≤ M := fun j => by
      rw [List.getD_eq_getElem?_getD]
      cases h : cs[j]? with
      | none => exact Nat.zero_le _
      | some x => exact hM x (List.mem_of_getElem? h)
    cases r with
    | up j =>
      rw [aft_up hk] at e
      cases e
      refine ⟨by omega, by rw [List.length_set]; exact hc, fun c hc => ?_, by omega⟩
      rcases List.mem_or_eq_of_mem_set hc with h | h
      · exact up c h
      · have := hgd j
        omega
    | dn j =>
      by_cases z : cs.getD j 0 = 0
      · rw [aft_dn0 hk z] at e
        cases e
      · rw [aft_dn hk z] at e
        cases e
        refine ⟨by omega, by rw [List.length_set]; exact hc, fun c hc => ?_, by omega⟩
        rcases List.mem_or_eq_of_mem_set hc with h | h
        · exact up c h
        · have := hgd j
          omega
    | br j g =>
      have hg2 : g < rs.length := hro.2
      by_cases z : cs.getD j 0 = 0
      · rw [aft_br0 hk z] at e
        cases e
        exact ⟨by omega, hc, up, by omega⟩
      · rw [aft_br hk z] at e
        cases e
        exact ⟨by omega, hc, up, by omega⟩
    | go g =>
      have hg2 : g < rs.length := hro
      rw [aft_go hk] at e
      cases e
      exact ⟨by omega, hc, up, by omega⟩
    | st =>
      rw [aft_st hk] at e
      cases e
/-! runs -/
def runL (rs : List Rw) : Nat → Nat × List Nat → List (Nat × List Nat)
  | 0, s => [s]
  | n + 1, s => match aftr rs s.1 s.2 with
    | none => [s]
    | some t => s :: runL rs n t
theorem runL_0 (rs : List Rw) (s : Nat × List Nat) : runL rs 0 s = [s] := rfl
theorem runL_no {rs : List Rw} {s : Nat × List Nat} (h : aftr rs s.1 s.2 = none) (n : Nat) : runL rs n s = [s] := by
  cases n with
  | zero => rfl
  | succ n =>
    unfold runL
    rw [h]
theorem runL_go {rs : List Rw} {s t : Nat × List Nat} (h : aftr rs s.1 s.2 = some t) (n : Nat) : runL rs (n + 1) s = s :: runL rs n t := by
  rw [runL]
  rw [h]
theorem runL_head (rs : List Rw) (n : Nat) (s : Nat × List Nat) : ∃ l, runL rs n s = s :: l := by
  cases n with
  | zero => exact ⟨[], rfl⟩
  | succ n =>
    cases h : aftr rs s.1 s.2 with
    | none => exact ⟨[], runL_no h _⟩
    | some t => exact ⟨_, runL_go h n⟩
theorem runL_len (rs : List Rw) : ∀ (n : Nat) (s : Nat × List Nat), 1 ≤ (runL rs n s).length ∧ (runL rs n s).length ≤ n + 1
  | 0, s => ⟨Nat.le_refl _, Nat.le_refl _⟩
  | n + 1, s => by
    cases h : aftr rs s.1 s.2 with
    | none =>
      rw [runL_no h]
      exact ⟨Nat.le_refl _, Nat.le_add_left _ _⟩
    | some t =>
      rw [runL_go h, List.length_cons]
      have := (runL_len rs n t).2
      omega
theorem runL_next {rs : List Rw} : ∀ {n : Nat} {s u v : Nat × List Nat} {i : Nat}, (runL rs n s)[i]? = some u → (runL rs n s)[i + 1]? = some v → aftr rs u.1 u.2 = some v
  | 0, s, u, v, i, _, h2 => by
    rw [runL_0] at h2
    cases h2
  | n + 1, s, u, v, i, h1, h2 => by
    cases e : aftr rs s.1 s.2 with
    | none =>
      rw [runL_no e] at h2
      cases h2
    | some t =>
      rw [runL_go e] at h1 h2
      cases i with
      | zero =>
        cases h1
        obtain ⟨l, hl⟩ := runL_head rs n t
        rw [hl] at h2
        cases h2
        exact e
      | succ i => exact runL_next (n := n) (s := t) h1 h2
/-- the word of a run by its last stand -/
def wordR (rs : List Rw) (s : Nat × List Nat) : Str := if rs[s.1]? = some .st then "stopped" else if aftr rs s.1 s.2 = none then "stuck" else "going"
/-- what a stand of a run keeps -/
structure SOk (b : Nat) (rs : List Rw) (M : Nat) (s : Nat × List Nat) : Prop where
  k : s.1 < rs.length
  l : s.2.length = b
  c : ∀ c ∈ s.2, c ≤ M
theorem aft_in {b : Nat} {rs : List Rw} {k : Nat} {cs : List Nat} {t : Nat × List Nat} (hg : Prg b rs) (e : aftr rs k cs = some t) : t.1 < rs.length := by
  cases hk : rs[k]? with
  | none =>
    unfold aftr at e
    rw [hk] at e
    cases e
  | some r =>
    have hro := hg.ok r (List.mem_of_getElem? hk)
    obtain ⟨us, r0, hfin, hend⟩ := hg.fin
    have hlen : rs.length = us.length + 1 := by rw [hfin, List.length_append]; rfl
    have hkl : k < rs.length := (List.getElem?_eq_some_iff.mp hk).1
    have nl : ¬ r.ends → k + 1 < rs.length := fun h => by
      apply Classical.byContradiction
      intro h2
      have : k = us.length := by omega
      rw [hfin, this, List.getElem?_append_right (Nat.le_refl _), Nat.sub_self] at hk
      cases hk
      exact h hend
    cases r with
    | up j =>
      rw [aft_up hk] at e
      cases e
      exact nl (fun h => h)
    | dn j =>
      by_cases z : cs.getD j 0 = 0
      · rw [aft_dn0 hk z] at e
        cases e
      · rw [aft_dn hk z] at e
        cases e
        exact nl (fun h => h)
    | br j g =>
      by_cases z : cs.getD j 0 = 0
      · rw [aft_br0 hk z] at e
        cases e
        exact hro.2
      · rw [aft_br hk z] at e
        cases e
        exact nl (fun h => h)
    | go g =>
      rw [aft_go hk] at e
      cases e
      exact hro
    | st =>
      rw [aft_st hk] at e
      cases e
theorem SOk.next {b : Nat} {rs : List Rw} {M : Nat} {s t : Nat × List Nat} (hg : Prg b rs) (h : SOk b rs M s) (e : aftr rs s.1 s.2 = some t) : SOk b rs (M + 1) t := by
  obtain ⟨n, es⟩ := t
  obtain ⟨_, e2, e3, _⟩ := aft_ok hg h.l h.c e
  exact ⟨aft_in hg e, e2, e3⟩
theorem SOk.up {b : Nat} {rs : List Rw} {M N : Nat} {s : Nat × List Nat} (h : SOk b rs M s) (l : M ≤ N) : SOk b rs N s := ⟨h.k, h.l, fun c hc => Nat.le_trans (h.c c hc) l⟩
theorem runL_ok {b : Nat} {rs : List Rw} (hg : Prg b rs) : ∀ {n M : Nat} {s : Nat × List Nat}, SOk b rs M s → ∀ t ∈ runL rs n s, SOk b rs (M + n) t
  | 0, M, s, h, t, ht => by
    rw [runL_0] at ht
    rw [List.mem_singleton.mp ht]
    exact h
  | n + 1, M, s, h, t, ht => by
    cases e : aftr rs s.1 s.2 with
    | none =>
      rw [runL_no e] at ht
      rw [List.mem_singleton.mp ht]
      exact h.up (Nat.le_add_right _ _)
    | some u =>
      rw [runL_go e] at ht
      rcases List.mem_cons.mp ht with rfl | ht
      · exact h.up (Nat.le_add_right _ _)
      · exact (runL_ok hg (h.next hg e) t ht).up (by omega)
theorem SOk.start {b : Nat} {rs : List Rw} {M : Nat} {bs : List Nat} (hg : Prg b rs) (hl : bs.length = b) (hc : ∀ c ∈ bs, c ≤ M) : SOk b rs M (0, bs) := ⟨hg.pos, hl, hc⟩
/-- a list of stands as told -/
abbrev SdL (H : Hp) (xs : List V) (ss : List (Nat × List Nat)) : Prop := Paired (fun x s => StdAt H x s.1 s.2) xs ss
theorem SdL.tk {H H' : Hp} {xs : List V} {ss : List (Nat × List Nat)} (h : SdL H xs ss) (e : Tk H H') : SdL H' xs ss := paired_mono (fun _ _ q => q.tk e) h
def sD (ss : List (Nat × List Nat)) : List PyData := ss.map fun s => oD (some s)
theorem SdL.dp {K : PySem.W.Frag} {H : Hp} : ∀ {xs : List V} {ss : List (Nat × List Nat)}, SdL H xs ss → DpAll K H xs (sD ss)
  | _, _, .nil => .nil
  | _, _, .cons a b => .cons (TpD.dp _ _ a.tpd) (SdL.dp b)
/-- a list's or a tuple's contents as a tuple -/
theorem w_gTpl2 {K : PySem.W.Frag} {H : Hp} {Q : VK} {p : Addr} {ys : List V} (h : H p = some (.lst ys) ∨ H p = some (.tup ys)) (k : ∀ l H', Sm H H' → H' l = some (.tup ys) → Q (.ref l) H') : gTpl K [.ref p] H Q := by
  rcases h with h | h
  · exact w_gTplL (sq_of h) fun l H' _ s g => k l H' s g
  · exact ⟨p, ys, rfl, .inr ⟨st_of h, k p H (Same.refl _) h⟩⟩
theorem w_len2 {K : PySem.W.Frag} {H : Hp} {Q : VK} {p : Addr} {ys : List V} (h : H p = some (.lst ys) ∨ H p = some (.tup ys)) (k : Q (.int (ys.length : Nat)) H) : gLen K [.ref p] H Q := by
  rcases h with h | h
  · exact w_lenL (sq_of h) k
  · exact w_lenT (st_of h) k
theorem wordR_st {rs : List Rw} {s : Nat × List Nat} (h : rs[s.1]? = some .st) : wordR rs s = "stopped" := if_pos h
theorem wordR_stuck {rs : List Rw} {s : Nat × List Nat} {r : Rw} (h : rs[s.1]? = some r) (n : r ≠ .st) (e : aftr rs s.1 s.2 = none) : wordR rs s = "stuck" := by
  unfold wordR
  rw [if_neg (by rw [h]; exact fun z => n (Option.some.inj z)), if_pos e]
theorem wordR_going {rs : List Rw} {s t : Nat × List Nat} (e : aftr rs s.1 s.2 = some t) : wordR rs s = "going" := by
  unfold wordR
  rw [if_neg (fun z => by rw [aft_st z] at e; cases e), if_neg (by rw [e]; exact fun z => nomatch z)]
theorem runL_more {rs : List Rw} {M : Nat} {bs : List Nat} {pre : List (Nat × List Nat)} {last t : Nat × List Nat} (h : runL rs M (0, bs) = pre ++ runL rs (M - pre.length) last) (e : aftr rs last.1 last.2 = some t) (l : pre.length + 1 ≤ M) : runL rs M (0, bs) = (pre ++ [last]) ++ runL rs (M - (pre ++ [last]).length) t := by
  have e1 : M - pre.length = (M - (pre ++ [last]).length) + 1 := by rw [List.length_append]; show _ = M - (pre.length + 1) + 1; omega
  rw [h, e1, runL_go e, List.append_assoc]
  rfl
theorem runL_end {rs : List Rw} {M : Nat} {bs : List Nat} {pre : List (Nat × List Nat)} {last : Nat × List Nat} (h : runL rs M (0, bs) = pre ++ runL rs (M - pre.length) last) (e : aftr rs last.1 last.2 = none ∨ M ≤ pre.length) : runL rs M (0, bs) = pre ++ [last] := by
  rw [h]
  rcases e with e | e
  · rw [runL_no e]
  · rw [show M - pre.length = 0 by omega, runL_0]
theorem bnd_ex : ∀ cs : List Nat, ∃ M, ∀ c ∈ cs, c ≤ M
  | [] => ⟨0, fun c hc => by cases hc⟩
  | x :: cs => by
    obtain ⟨M, hM⟩ := bnd_ex cs
    refine ⟨max x M, fun c hc => ?_⟩
    rcases List.mem_cons.mp hc with rfl | hc
    · omega
    · have := hM c hc
      omega
theorem aft_len {b : Nat} {rs : List Rw} {k : Nat} {cs : List Nat} {t : Nat × List Nat} (hg : Prg b rs) (hc : cs.length = b) (e : aftr rs k cs = some t) : t.2.length = b := by
  obtain ⟨M, hM⟩ := bnd_ex cs
  obtain ⟨n, es⟩ := t
  exact (aft_ok hg hc hM e).2.1
/-! the greatest, the sum, of a list or a tuple of numbers -/
def mxN (l : List Nat) : Nat := l.foldl max 0
theorem fold_max (l : List Nat) : ∀ a : Nat, l.foldl max a = max a (mxN l) := by
  unfold mxN
  induction l with
  | nil => intro a; simp
  | cons x l ih =>
    intro a
    rw [List.foldl_cons, List.foldl_cons, ih, ih (max 0 x)]
    omega
theorem mxN_cons (x : Nat) (l : List Nat) : mxN (x :: l) = max x (mxN l) := by
  show l.foldl max (max 0 x) = _
  rw [fold_max]
  omega
theorem mxN_le : ∀ {l : List Nat} {x : Nat}, x ∈ l → x ≤ mxN l
  | y :: l, x, h => by
    rw [mxN_cons]
    rcases List.mem_cons.mp h with rfl | h
    · omega
    · have := mxN_le h
      omega
theorem mxN_mem : ∀ {l : List Nat}, l ≠ [] → mxN l ∈ l
  | [x], _ => by
    have : mxN [x] = x := by rw [mxN_cons]; show max x 0 = x; omega
    rw [this]
    exact List.mem_cons_self
  | x :: y :: l, _ => by
    have ih := mxN_mem (l := y :: l) (by simp)
    rw [mxN_cons]
    by_cases h : mxN (y :: l) ≤ x
    · rw [Nat.max_eq_left h]; exact List.mem_cons_self
    · rw [Nat.max_eq_right (by omega)]; exact List.mem_cons_of_mem _ ih
theorem mxN_bd {l : List Nat} {M : Nat} (h : ∀ x ∈ l, x ≤ M) : mxN l ≤ M := by
  cases l with
  | nil => exact Nat.zero_le _
  | cons x l => exact h _ (mxN_mem (by simp))
theorem mxI_fold : ∀ (l : List Nat) (a : Nat), (l.map fun n => ((n : Nat) : Int)).foldl max ((a : Nat) : Int) = ((l.foldl max a : Nat) : Int)
  | [], _ => rfl
  | x :: l, a => by
    rw [List.map_cons, List.foldl_cons, List.foldl_cons, ← mxI_fold l (max a x)]
    congr 1
    omega
def rMxN (K : PySem.W.Frag) : List V → Hp → VK → Prop := fun vs H Q => ∃ a l, vs = [V.ref a] ∧ (SqL K H a (nV l) ∨ SqT K H a (nV l)) ∧ l ≠ [] ∧ Q (.int (mxN l : Nat)) H
theorem cr_mxN {X : Cx} {K : PySem.W.Frag} (hK : X.K = K) (hc : X.calm = true) (hu : X.A.units + 64 < cLine) : CallR X (.builtin "max") (rMxN K) := by
  subst hK
  intro pins s σ H vs us Q I r h
  obtain ⟨a, l, rfl, hs, hne, q⟩ := h
  obtain ⟨u, rfl, ru⟩ := vals1 r
  cases ru
  rcases hs with hs | hs
  · obtain ⟨its, rv, hl, _⟩ := I.list hs
    have hi := rv
    rw [show nV l = (l.map fun n => ((n : Nat) : Int)).map V.int by unfold nV; rw [List.map_map]; rfl] at hi
    refine max_raw (I.ok.hd hc) hl.isList hi.ints (by rw [List.length_map]; exact List.length_pos_iff.mpr hne) fun h' tk m t' hk h1 h2 => ?_
    obtain ⟨n, hn, rfl⟩ := List.mem_map.mp h1
    have e : n = mxN l := by
      have a := mxN_le hn
      have b := h2 _ (List.mem_map.mpr ⟨_, mxN_mem hne, rfl⟩)
      omega
    subst e
    exact ⟨.int _, H, I.kept hk, ⟨_, rfl⟩, q⟩
  · obtain ⟨its, rv, p, z⟩ := I.tuple hs
    cases l with
    | nil => exact absurd rfl hne
    | cons x l =>
      obtain ⟨as, hr⟩ := Dp.readsAll I (nD (x :: l)) (nV (x :: l)) its (TpL.dp _ _ (tpl_nat (H := H) _)) rv
      have hd : PyData.depthAll (nD (x :: l)) = 0 := by
        have : ∀ m : List Nat, PyData.depthAll (nD m) = 0 := by
          intro m
          induction m with
          | nil => rfl
          | cons y m ih => show PyData.depthAll (PyData.int y :: nD m) = 0; simp only [PyData.depthAll, PyData.depth, ih]; rfl
        exact this _
      refine PySem.W.max_tuple_data (I.ok.hd hc) p hr ⟨fun y hy z hz => ?_, fun y hy e => ?_⟩ ?_ fun i v h' tk bs hv rd hk => ?_
      · obtain ⟨n, _, rfl⟩ := List.mem_map.mp (show y ∈ (x :: l).map (fun t : Nat => PyData.int (t : Nat)) from hy)
        obtain ⟨m, _, rfl⟩ := List.mem_map.mp (show z ∈ (x :: l).map (fun t : Nat => PyData.int (t : Nat)) from hz)
        rfl
      · obtain ⟨n, _, rfl⟩ := List.mem_map.mp (show y ∈ (x :: l).map (fun t : Nat => PyData.int (t : Nat)) from hy)
        cases e
      · show X.A.units + 1 + PyData.depthAll (nD (x :: l)) < cLine
        rw [hd]
        omega
      · have e : PySem.W.maxD (.int ((x : Nat) : Int)) ((l.map fun n => ((n : Nat) : Int)).map .int) = .int ((mxN (x :: l) : Nat) : Int) := by
          rw [PySem.W.maxD_ints, mxI_fold, fold_max, mxN_cons]
        have e2 : nD l = (l.map fun n => ((n : Nat) : Int)).map .int := by
          unfold nD
          rw [List.map_map]
          rfl
        have rd : Reads h' v (PySem.W.maxD (.int ((x : Nat) : Int)) (nD l)) bs := rd
        rw [e2, e] at rd
        obtain ⟨t, rfl⟩ : ∃ t, v = .int ((mxN (x :: l) : Nat) : Int) t := by
          cases rd
          exact ⟨_, rfl⟩
        exact ⟨.int _, H, Inv.kept (t' := tk) I hk, ⟨_, rfl⟩, q⟩
def smN : List Nat → Nat
  | [] => 0
  | x :: l => x + smN l
theorem smN_I : ∀ l : List Nat, (l.map fun n => ((n : Nat) : Int)).sum = ((smN l : Nat) : Int)
  | [] => rfl
  | x :: l => by
    rw [List.map_cons, List.sum_cons, smN_I l]
    rfl
theorem smN_bd {M : Nat} : ∀ {l : List Nat}, (∀ x ∈ l, x ≤ M) → smN l ≤ l.length * M
  | [], _ => Nat.zero_le _
  | x :: l, h => by
    have a := h x List.mem_cons_self
    have b := smN_bd (l := l) fun y hy => h y (List.mem_cons_of_mem _ hy)
    show x + smN l ≤ (l.length + 1) * M
    rw [Nat.succ_mul]
    omega
def rSmN (K : PySem.W.Frag) : List V → Hp → VK → Prop := fun vs H Q => ∃ a l, vs = [V.ref a] ∧ (SqL K H a (nV l) ∨ SqT K H a (nV l)) ∧ Q (.int (smN l : Nat)) H
theorem cr_smN {X : Cx} {K : PySem.W.Frag} (hK : X.K = K) (hc : X.calm = true) : CallR X (.builtin "sum") (rSmN K) := by
  subst hK
  intro pins s σ H vs us Q I r h
  obtain ⟨a, l, rfl, hs, q⟩ := h
  obtain ⟨u, rfl, ru⟩ := vals1 r
  cases ru
  have en : nV l = (l.map fun n => ((n : Nat) : Int)).map V.int := by unfold nV; rw [List.map_map]; rfl
  rcases hs with hs | hs
  · obtain ⟨its, rv, hl, _⟩ := I.list hs
    rw [en] at rv
    refine sum_raw (I.ok.hd hc) hl.isList rv.ints fun h' tk t' hk => ?_
    rw [smN_I]
    exact ⟨.int _, H, I.kept hk, ⟨_, rfl⟩, q⟩
  · obtain ⟨its, rv, p, z⟩ := I.tuple hs
    rw [en] at rv
    have hi := rv.ints
    obtain ⟨xs, hx⟩ := hi.allInts.items
    have hn : numsOf its.toArray.toList = l.map fun n => ((n : Nat) : Int) := by rw [show its.toArray.toList = its from rfl, hi.numsOf]
    rw [hx] at p hn
    rw [nums_intItems] at hn
    refine PySem.W.ktm_sumG (I.ok.hd hc) p fun h' tk t' hk => ?_
    rw [preSum_eq, List.take_of_length_le (by simp), hn, smN_I]
    exact ⟨.int _, H, Inv.kept (t' := tk) I hk, ⟨_, rfl⟩, q⟩
theorem w_mxL {K : PySem.W.Frag} {H : Hp} {Q : VK} {a : Addr} {l : List Nat} (h : SqL K H a (nV l)) (n : l ≠ []) (k : Q (.int (mxN l : Nat)) H) : rMxN K [.ref a] H Q := ⟨a, l, rfl, .inl h, n, k⟩
theorem w_mxT {K : PySem.W.Frag} {H : Hp} {Q : VK} {a : Addr} {l : List Nat} (h : SqT K H a (nV l)) (n : l ≠ []) (k : Q (.int (mxN l : Nat)) H) : rMxN K [.ref a] H Q := ⟨a, l, rfl, .inr h, n, k⟩
theorem w_smT {K : PySem.W.Frag} {H : Hp} {Q : VK} {a : Addr} {l : List Nat} (h : SqT K H a (nV l)) (k : Q (.int (smN l : Nat)) H) : rSmN K [.ref a] H Q := ⟨a, l, rfl, .inr h, k⟩
/-! the least c -/
def btsN (x : Nat) : Nat := if x = 0 then 0 else x.log2 + 1
theorem btsN_lt {x k : Nat} : 2 ^ k ≤ x ↔ k < btsN x := by
  unfold btsN
  by_cases h : x = 0
  · subst h
    have := Nat.two_pow_pos k
    simp only [if_true]
    omega
  · rw [if_neg h, ← Nat.le_log2 h]
    omega
def cL (G n : Nat) : Nat := max (btsN G + 1) (btsN n)
theorem cL_pos {G n : Nat} : 1 ≤ cL G n := by unfold cL; omega
theorem cL_lt {G n c : Nat} (h : 1 ≤ c) : (2 ^ (c - 1) ≤ G ∨ 2 ^ c ≤ n) ↔ c < cL G n := by
  rw [btsN_lt, btsN_lt]
  unfold cL
  omega
theorem btsN_le {x k : Nat} (h : x < 2 ^ k) : btsN x ≤ k := by
  have := btsN_lt (x := x) (k := k)
  omega
/-- what a run's stands have at most -/
def grt (ss : List (Nat × List Nat)) : Nat := mxN (smN ((ss.map (·.2)).headD []) :: ss.map fun s => mxN s.2)
def SdBd (ss : List (Nat × List Nat)) (M : Nat) : Prop := ∀ s ∈ ss, s.2 ≠ [] ∧ s.2.length ≤ 5 ∧ ∀ c ∈ s.2, c ≤ M
theorem grt_bd {ss : List (Nat × List Nat)} {M : Nat} (h : SdBd ss M) (hM : 1 ≤ M) : grt ss ≤ 5 * M := by
  refine mxN_bd fun x hx => ?_
  rcases List.mem_cons.mp hx with rfl | hx
  · cases ss with
    | nil => exact Nat.zero_le _
    | cons s ss =>
      obtain ⟨_, b, c⟩ := h s List.mem_cons_self
      have := smN_bd c
      have e : s.2.length * M ≤ 5 * M := Nat.mul_le_mul_right _ b
      show smN s.2 ≤ _
      omega
  · obtain ⟨s, hs, rfl⟩ := List.mem_map.mp hx
    have := mxN_bd (h s hs).2.2
    omega
/-! runs that come to a stop -/
theorem word_stp {rs : List Rw} {s : Nat × List Nat} : wordR rs s = Str.ofString "stopped" ↔ rs[s.1]? = some .st := by
  unfold wordR
  by_cases h : rs[s.1]? = some .st
  · rw [if_pos h]
    exact ⟨fun _ => h, fun _ => rfl⟩
  · rw [if_neg h]
    refine ⟨fun e => ?_, fun e => absurd e h⟩
    split at e
    · exact absurd (show Str.ofString "stuck" = Str.ofString "stopped" from e) (by decide +kernel)
    · exact absurd (show Str.ofString "going" = Str.ofString "stopped" from e) (by decide +kernel)
theorem snoc_one {α : Type} {s last : α} {pre : List α} (h : [s] = pre ++ [last]) : pre = [] ∧ s = last := by
  cases pre with
  | nil => exact ⟨rfl, by cases h; rfl⟩
  | cons a pre =>
    have := congrArg List.length h
    rw [List.length_append] at this
    have : 1 = pre.length + 1 + 1 := this
    omega
theorem runL_stable {rs : List Rw} : ∀ {M : Nat} {s last : Nat × List Nat} {pre : List (Nat × List Nat)} {N : Nat}, runL rs M s = pre ++ [last] → aftr rs last.1 last.2 = none → pre.length ≤ N → runL rs N s = pre ++ [last]
  | 0, s, last, pre, N, h, e, l => by
    rw [runL_0] at h
    obtain ⟨rfl, rfl⟩ := snoc_one h
    exact runL_no e N
  | M + 1, s, last, pre, N, h, e, l => by
    cases ea : aftr rs s.1 s.2 with
    | none =>
      rw [runL_no ea] at h
      obtain ⟨rfl, rfl⟩ := snoc_one h
      exact runL_no e N
    | some t =>
      rw [runL_go ea] at h
      cases pre with
      | nil =>
        obtain ⟨u, hu⟩ := runL_head rs M t
        rw [hu] at h
        cases h
      | cons a pre =>
        injection h with h1 h2
        subst h1
        cases N with
        | zero => exact absurd l (by simp)
        | succ N =>
          rw [runL_go ea, runL_stable (N := N) h2 e (by simpa using l)]
          rfl
/-- ss is the whole run from bs, which stops -/
structure StopsR (rs : List Rw) (bs : List Nat) (ss : List (Nat × List Nat)) : Prop where
  ex : ∃ pre last, ss = pre ++ [last] ∧ rs[last.1]? = some .st ∧ ∀ N, pre.length ≤ N → runL rs N (0, bs) = ss
theorem StopsR.of {rs : List Rw} {bs : List Nat} {M : Nat} {pre : List (Nat × List Nat)} {last : Nat × List Nat} (h : runL rs M (0, bs) = pre ++ [last]) (e : rs[last.1]? = some .st) : StopsR rs bs (pre ++ [last]) :=
  ⟨pre, last, rfl, e, fun N l => runL_stable h (aft_st e) l⟩
theorem StopsR.run {rs : List Rw} {bs : List Nat} {ss : List (Nat × List Nat)} (h : StopsR rs bs ss) {N : Nat} (l : ss.length ≤ N + 1) : runL rs N (0, bs) = ss := by
  obtain ⟨pre, last, e, _, r⟩ := h.ex
  refine r N ?_
  rw [e, List.length_append] at l
  have : pre.length + 1 ≤ N + 1 := l
  omega
theorem StopsR.stp {rs : List Rw} {bs : List Nat} {ss : List (Nat × List Nat)} (h : StopsR rs bs ss) {N : Nat} (l : ss.length ≤ N + 1) : ∀ pre last, runL rs N (0, bs) = pre ++ [last] → rs[last.1]? = some .st := by
  intro pre last e
  rw [h.run l] at e
  obtain ⟨pre', last', e', q, _⟩ := h.ex
  rw [e'] at e
  have := (List.append_inj' e rfl).2
  cases this
  exact q
theorem StopsR.head {rs : List Rw} {bs : List Nat} {ss : List (Nat × List Nat)} (h : StopsR rs bs ss) : ∃ l, ss = (0, bs) :: l := by
  obtain ⟨l, e⟩ := runL_head rs ss.length (0, bs)
  exact ⟨l, by rw [← h.run (N := ss.length) (by omega)]; exact e⟩
theorem StopsR.pos {rs : List Rw} {bs : List Nat} {ss : List (Nat × List Nat)} (h : StopsR rs bs ss) : 1 ≤ ss.length := by
  obtain ⟨l, e⟩ := h.head
  rw [e]
  exact Nat.le_add_left _ _
/-- a drawn program, contents, the run that stops -/
structure Stp4 (H : Hp) (p b q : Addr) (m : Nat) (rs : List Rw) (bs : List Nat) (ss : List (Nat × List Nat)) : Prop where
  rows : ∃ us, H p = some (.lst us) ∧ RwsAt H us rs
  bg : H b = some (.lst (nV bs))
  sd : ∃ xs, H q = some (.lst xs) ∧ SdL H xs ss
theorem Stp4.sm {H H' : Hp} {p b q : Addr} {m : Nat} {rs : List Rw} {bs : List Nat} {ss : List (Nat × List Nat)} (h : Stp4 H p b q m rs bs ss) (e : Sm H H') : Stp4 H' p b q m rs bs ss := by
  obtain ⟨⟨us, a, b⟩, c, ⟨xs, d, f⟩⟩ := h
  exact ⟨⟨us, e _ _ a, b.tk (Tk.sm e)⟩, e _ _ c, ⟨xs, e _ _ d, f.tk (Tk.sm e)⟩⟩
structure StpOk (m : Nat) (rs : List Rw) (bs : List Nat) (ss : List (Nat × List Nat)) (M : Nat) : Prop where
  pr : Prg m rs
  ln : bs.length = m
  bd : ∀ c ∈ bs, c ≤ 500
  st : StopsR rs bs ss
  sl : ss.length ≤ M + 1
/-! a walk over a list or a tuple -/
theorem pi_or {X : Cx} {tg l : Expr} {t1 t2 : TI} (h1 : PI X tg l t1) (h2 : PI X tg l t2) : PI X tg l (fun σ H R => t1 σ H R ∨ t2 σ H R) := ⟨fun pins s σ H R I h => h.elim (fun h => h1.run pins s σ H R I h) (fun h => h2.run pins s σ H R I h)⟩
/-! enumerate over a tuple -/
section
open AutoSeq1 (wpAny_loadPart')
theorem meets_enumT (l : Addr) (items : Array Value) (n : Nat) (dct : Option Addr) (sl : Array (Option Value)) :
    Meets (Builtin.«enumerate.__new__» ⟨[.type "enumerate", .ref l], []⟩) (fun _ R s => s.heap.get? l = some { cls := .type "tuple", dict := dct, data := .seq items n, slots := sl } ∧
      R (.ok (.ret (.ref (s.heap.push { cls := .type "tuple_iterator", data := .fields #[.ref l, .int 0 0] }).objs.size)))
        { s with heap := (s.heap.push { cls := .type "tuple_iterator", data := .fields #[.ref l, .int 0 0] }).push { cls := .type "enumerate", data := .fields #[.none, .bool false, .ref s.heap.objs.size, rawInt 0, .none, .none] } }) :=
  .of_wp fun prog w A R s h => by
    obtain ⟨hp, g, d, tk, os⟩ := s; obtain ⟨hl, h⟩ := h
    have hsub := sub_enumerate
    have hL : Heap.IsTuple (Shared.heap ⟨hp, g, d, tk, os⟩) l items := ⟨_, hl, rfl, n, rfl⟩
    wp_walk using wpAny_loadPart' hl
    refine wpAny_stack_any fun st => PySem.wpAny_pure ?_
    split
    · rename_i c _ _ _ _ _
      cases (c == Value.type "enumerate")
      · wp_walk using wpAny_loadPart' hl, wpAny_pyIter_tuple hL
        exact ⟨_, rfl, h⟩
      · wp_walk using wpAny_loadPart' hl, wpAny_pyIter_tuple hL
        exact ⟨_, rfl, h⟩
    · wp_walk using wpAny_loadPart' hl, wpAny_pyIter_tuple hL
      exact ⟨_, rfl, h⟩
end
section
variable {prog : Program} {w : World} {A : Around} {E : Value → Shared → Prop} {s : Shared}
theorem call_enumT {l : Addr} {items : Array Value} {Q : Value → Shared → Prop} (hL : s.heap.IsTuple l items)
    (h : ∀ h', IsEnum h' (s.heap.objs.size + 1) s.heap.objs.size 0 .none → h'.IsTupleIter s.heap.objs.size l 0 → h'.objs.size = s.heap.objs.size + 2 →
      (∀ b o, s.heap.get? b = some o → h'.get? b = some o) → Q (.ref (s.heap.objs.size + 1)) { s with heap := h' }) :
    wpAny (model prog w) A (call (.type "enumerate") [.ref l]) Q E s := by
  obtain ⟨⟨c, dct, dt, sl⟩, hl, hc, n, hd⟩ := hL
  replace hc : c = .type "tuple" := hc
  replace hd : dt = .seq items n := hd
  subst hc hd
  refine callType_new PySem.F.called_enumerate (by decide) (PySem.F.typeCall_enumerate_1 _) (PySem.F.newCall_enumerate_1 _) (fun obj => PySem.F.args_object_init_2 obj _) PySem.F.entry_enumerate_new
    (meets_enumT l items n dct sl) ⟨hl, ?_⟩
  have hz : (s.heap.push { cls := .type "tuple_iterator", data := .fields #[.ref l, .int 0 0] }).objs.size = s.heap.objs.size + 1 := Heap.size_push ..
  show _ ∧ _
  rw [hz]
  have he : IsEnum ((s.heap.push { cls := .type "tuple_iterator", data := .fields #[.ref l, .int 0 0] }).push
      { cls := .type "enumerate", data := .fields #[.none, .bool false, .ref s.heap.objs.size, rawInt 0, .none, .none] }) (s.heap.objs.size + 1) s.heap.objs.size 0 .none := by
    have := Heap.get?_push_size (s.heap.push { cls := .type "tuple_iterator", data := .fields #[.ref l, .int 0 0] })
      (o := { cls := .type "enumerate", data := .fields #[.none, .bool false, .ref s.heap.objs.size, rawInt 0, .none, .none] }) rfl
    rw [hz] at this; exact this
  refine ⟨⟨_, he, rfl⟩, h _ he ⟨_, Heap.get?_push_of_some _ (Heap.get?_push_size _ rfl), rfl, rfl⟩ (by rw [Heap.size_push, hz]) fun b o x => Heap.get?_push_of_some _ (Heap.get?_push_of_some _ x)⟩
end
section
variable {prog : Program} {w : World} {A : Around} {E : Value → Shared → Prop} {s : Shared}
theorem wpAny_pyNext_enum_endT {e it l : Addr} {i : Nat} {items : Array Value} {old : Value} {Q : Option Value → Shared → Prop} (hh : A.handled = none)
    (he : IsEnum s.heap e it i old) (hit : s.heap.IsTupleIter it l i) (hl : s.heap.IsTuple l items) (hx : items[i]? = none)
    (hQ : ∀ h', Heap.ExtBut it s.heap h' → Q none { s with heap := h' }) : wpAny (model prog w) A (pyNext (.ref e)) Q E s := by
  have hT : s.TypeIs (.ref e) "enumerate" := ⟨_, he, rfl⟩
  unfold pyNext
  refine PySem.wpAny_bind (wpAny_attempt (wpAny_callSpecial?_slot (name := Str.ofString "__next__") hT PySem.F.slot_enumerate_next
    (wpAny_call_entry PySem.F.slot_enumerate_next hT PySem.F.entry_enumerate_next ?_ (PySem.F.args_enumerate_next_1 _))))
  show wpAny _ _ (field (.ref e) 2 >>= _) _ _ _
  refine PySem.wpAny_bind (wpAny_field he rfl (x := .ref it) rfl ?_)
  refine PySem.wpAny_bind (_root_.RZ.nextOf_tuple_end hh hit hl hx fun h' x he' hx' => ?_)
  obtain ⟨o, ho, hc⟩ := hx'
  refine PySem.wpAny_bind (wpAny_isInstance (T := "StopIteration") (b := true) ⟨o, ho, hc⟩ isSubtype_stop ?_)
  exact PySem.wpAny_pure (hQ _ he')
end
def ItTE (K : PySem.W.Frag) (a : Addr) : It :=
  ⟨fun i H => ∃ (xs : List V) (x : V), SqT K H a xs ∧ xs[i]? = some x, fun i H v H' => ∃ T x, v = .ref T ∧ H T = none ∧ H' = upd H T (.tup [.int (i : Nat), x]) ∧ ∀ xs, SqT K H a xs → xs[i]? = some x, fun i H => ∃ xs : List V, SqT K H a xs ∧ xs.length ≤ i⟩
theorem turn_TE {P : Program} {w : World} {K : PySem.W.Frag} {elts : List Expr} {kk : Nat} {tpos : Pos} (a e it : Addr) :
    Turn P w K (.Tuple elts kk tpos) (ItTE K a) [e, it] e (fun i h => (∃ old, IsEnum h e it ((i : Nat) : Int) old) ∧ h.IsTupleIter it a i ∧ e ≠ it ∧ e ≠ a ∧ a ≠ it) where
  mem := List.mem_cons_self
  obj := by
    rintro i h ⟨⟨old, he⟩, ⟨o, ho, hc, hd⟩, _⟩ b hb
    rcases (show b = e ∨ b = it by simpa using hb) with rfl | rfl
    · exact ⟨_, he, fun v q => nomatch q⟩
    · exact ⟨o, ho, fun v q => by rw [hd] at q; cases q⟩
  keep := by
    rintro i h h' ⟨⟨old, he⟩, ⟨o, ho, r⟩, ne⟩ k
    exact ⟨⟨old, k e (by simp) _ he⟩, ⟨o, k it (by simp) o ho, r⟩, ne⟩
  item := by
    intro X hP hw hK hc i pins s σ H E I hf st hg
    subst hP hw hK
    obtain ⟨⟨old, he⟩, hit, hne, hea, hai⟩ := st
    obtain ⟨xs, x, hq, hx⟩ := hg
    obtain ⟨its, rv, p, _⟩ := I.tuple hq
    obtain ⟨u, hu, ru⟩ := rv.get hx
    have hlen : i < its.length := (List.getElem?_eq_some_iff.mp hu).1
    have hel : e < s.heap.objs.size := Heap.lt_size he
    have hil : it < s.heap.objs.size := by
      obtain ⟨_, q, _⟩ := hit
      exact Heap.lt_size q
    have hef : e ∉ [it, a] := by simp [hne, hea]
    have D := Draws.tuple (prog := X.prog) (w := X.w) (A := X.A.in1) (I.ok.hd hc) it a hai its.toArray
    refine wpAny_pyNext_enum_itemD D he ⟨hit, p⟩ (by simpa using hlen) hne hef fun v h' tk hv ho hit' hT hsz hk => ?_
    have hvu : v = u := by
      have hv : its.toArray[i]? = some v := hv
      rw [show its.toArray[i]? = some u by simpa using hu] at hv
      exact (Option.some.inj hv).symm
    subst hvu
    refine ⟨_, rfl, wpAny_letOwnedTupleGo_enum (prog := X.prog) (w := X.w) (s := { s with heap := h', toks := tk + 1 }) ho fun h'' he' sb => ?_⟩
    have hT2 := (sb.2 _ (Nat.ne_of_gt hel)).trans hT
    have new : ObjOk X.prog X.w (upd H s.heap.objs.size (.tup [.int (i : Nat), x])) h'' s.heap.objs.size (.tup [.int (i : Nat), x]) :=
      ⟨by show 2 ≤ sizeLine; decide, [.int i tk, v], .cons ⟨_, rfl⟩ (.cons ru .nil), ⟨_, hT2, rfl, _, rfl⟩⟩
    have I1 := Inv.turnedNew (t' := tk + 1) I (ch := [e, it]) (fun b ob hb q => (sb.2 b (fun z => hb (by simp [z]))).trans (hk b ob (fun z => hb (by simp [z])) (fun z => hb (by simp [z])) q)) hf (Nat.le_refl _) new
    refine ⟨.ref s.heap.objs.size, _, I1, rfl, ⟨_, x, rfl, I.hok.fresh (Nat.le_refl _), rfl, fun ys hy => by rw [I.tuple_inj hy hq]; exact hx⟩, ⟨⟨v, ?_⟩, ?_, hne, hea, hai⟩, fun b hb => ?_⟩
    · rw [show ((i + 1 : Nat) : Int) = (i : Int) + 1 from rfl]
      exact he'
    · obtain ⟨o, q, r⟩ := hit'.1
      exact ⟨o, (sb.2 it (Ne.symm hne)).trans q, r⟩
    · have hb' : b < s.heap.objs.size := by
        rcases (show b = e ∨ b = it by simpa using hb) with rfl | rfl
        · exact hel
        · exact hil
      rw [upd_ne (Nat.ne_of_lt hb')]
      exact (hf b hb).1
  done := by
    intro X hP hw hK hc i pins s σ H E I hf st hg
    subst hP hw hK
    obtain ⟨⟨old, he⟩, hit, hne, hea, hai⟩ := st
    obtain ⟨xs, hq, hx⟩ := hg
    obtain ⟨its, rv, p, _⟩ := I.tuple hq
    have hl := rv.length
    obtain ⟨f0, f1, f2, f3, f4, f5⟩ := hf it (by simp)
    refine wpAny_pyNext_enum_endT (I.ok.hd hc) he hit p (by simp; omega) fun h' eb => ⟨rfl, I.turned (t' := s.toks) (fun b o hb q => eb b o hb q) f0 f1 f3 f4 f5⟩
  self := fun A i s Q E st h => by
    obtain ⟨⟨_, he⟩, _⟩ := st
    exact wpAny_pyIter_enum he h
def iEnT (K : PySem.W.Frag) (ta : TA) : TI := fun σ H R => ta σ H fun vs H1 => ∃ a xs, vs = [.ref a] ∧ SqT K H1 a xs ∧ R (ItTE K a) H1
theorem pi_enT {X : Cx} {e : Expr} {ta : TA} {p pos tpos : Pos} {elts : List Expr} {kk : Nat} (hg : Gl X "enumerate") (hm : X.mg "enumerate" = none) (ha : PA X [e] ta) (hs : starEach [e] X.env = [(false, eval e X.env)] := by rfl) :
    PI X (.Tuple elts kk tpos) (.Call (.Name "enumerate" p) [e] [] pos) (iEnT X.K ta) := by
  refine ⟨fun pins s σ H R I h => Call_ (ld_blt I hg hm boot_enumerate (PyProof.Rows.callWith_type1 (thn (ha.run pos pins s σ H _ I h) fun us s1 ⟨vs, H1, I1, r1, q1⟩ => ?_) hs rfl))⟩
  obtain ⟨a, xs, rfl, hq, q⟩ := q1
  obtain ⟨u, rfl, ru⟩ := vals1 r1
  obtain rfl : u = Value.ref a := ru
  obtain ⟨its, rv, p1, _⟩ := I1.tuple hq
  obtain ⟨o1, ho1, _⟩ := id p1
  have hal : a < s1.heap.objs.size := Heap.lt_size ho1
  refine call_enumT (items := its.toArray) p1 fun h' he hit hsz hk => wpAny_pyIter_enum he ?_
  have I2 : Inv X pins σ H1 { s1 with heap := h' } := Inv.kept (t' := s1.toks) I1 hk
  refine ⟨s1.heap.objs.size + 1, [s1.heap.objs.size + 1, s1.heap.objs.size], _, _, H1, rfl, I2, turn_TE a (s1.heap.objs.size + 1) s1.heap.objs.size, ⟨⟨.none, he⟩, hit, Nat.succ_ne_self _, Nat.ne_of_gt (Nat.lt_succ_of_lt hal), Nat.ne_of_lt hal⟩, fun b hb => ?_, q⟩
  have hle : s1.heap.objs.size ≤ b := by
    rcases (show b = s1.heap.objs.size + 1 ∨ b = s1.heap.objs.size by simpa using hb) with rfl | rfl
    · exact Nat.le_add_right _ _
    · exact Nat.le_refl _
  exact I1.fpOk hle (I1.hok.fresh hle)
theorem walk_TE {K : PySem.W.Frag} {a : Addr} {xs : List V} : Walk (ItTE K a) xs.length (fun H => SqT K H a xs) (YPair (fun i => some (.int (i : Nat))) (fun i => xs[i]?)) :=
  ⟨fun i H hi h => ⟨xs, _, h, List.getElem?_eq_getElem hi⟩, fun H h => ⟨xs, h, Nat.le_refl _⟩, fun i H v H' hi h y => by
    obtain ⟨T, x, e1, e2, e3, e4⟩ := y
    exact ⟨T, _, x, e1, e2, e3, rfl, e4 xs h⟩⟩
def EtE (K : PySem.W.Frag) (R : It → Hp → Prop) (vs : List V) (H1 : Hp) : Prop := ∃ a xs, vs = [.ref a] ∧ SqT K H1 a xs ∧ R (ItTE K a) H1
theorem w_iEt {K : PySem.W.Frag} {σ : L2.St} {H : Hp} {ta : TA} {R : It → Hp → Prop} (k : ta σ H fun vs H1 => EtE K R vs H1) : iEnT K ta σ H R := k
theorem w_iEte {K : PySem.W.Frag} {H : Hp} {R : It → Hp → Prop} {a : Addr} {xs : List V} (h : SqT K H a xs) (k : R (ItTE K a) H) : EtE K R [.ref a] H := ⟨a, xs, rfl, h, k⟩
theorem loopEt {σ : L2.St} {H : Hp} {D : Ends} {K : PySem.W.Frag} {g : TG} {tb : TS} {a : Addr} {xs : List V} (Pv : Nat → L2.St → Hp → Prop) (h0 : Pv 0 σ H) (hl : ∀ i σ H, i ≤ xs.length → Pv i σ H → SqT K H a xs)
    (hs : ∀ i x T σ H H', i < xs.length → xs[i]? = some x → Pv i σ H → H T = none → Sm H H' → H' T = some (.tup [.int (i : Nat), x]) → g (.ref T) σ H' fun σ2 H2 => tb (En (Pv (i + 1)) (RT D) (NX D) (Pv (i + 1))) σ2 H2)
    (hd : ∀ σ H, Pv xs.length σ H → NX D σ H) : Loop (ItTE K a) g tb D σ H :=
  for_it walk_TE Pv h0 hl (fun i x σ H H' hi p y => by
    obtain ⟨T, u, v, rfl, hT, rfl, h1, h2⟩ := y
    cases h1
    exact hs i v T σ H _ hi h2 p hT (sm_new hT) upd_same) hd
theorem lcEt {σ : L2.St} {H : Hp} {Q : VK} {K : PySem.W.Frag} {g : TG} {tt : TT} {te : TE} {vs : List Nat} {a : Addr} {xs : List V} (Pv : Addr → Nat → Hp → Prop) (h0 : ∀ D H', H D = none → Sm H H' → H' D = some (.lst []) → Pv D 0 H')
    (hl : ∀ D i H', H D = none → i ≤ xs.length → Pv D i H' → SqT K H' a xs)
    (hs : ∀ D i x T H1 H', H D = none → i < xs.length → xs[i]? = some x → Pv D i H1 → H1 T = none → Sm H1 H' → H' T = some (.tup [.int (i : Nat), x]) → g (.ref T) (wipe σ vs) H' fun σ2 H2 => LcGo vs σ σ2 (tt σ2 H2 fun b H3 => if b = true then te σ2 H3 fun y H4 => LcEnd D y (Pv D (i + 1)) H4 else Pv D (i + 1) H3))
    (hd : ∀ D H', H D = none → Pv D xs.length H' → Q (.ref D) H') : LcL (ItTE K a) g tt te vs σ H Q := fun D hD =>
  lc_it walk_TE (Pv D) (h0 D _ hD (sm_new hD) upd_same) (fun i H' hi p => hl D i H' hD hi p) (fun i x H1 H' hi p y => by
    obtain ⟨T, u, v, rfl, hT, rfl, h1, h2⟩ := y
    cases h1
    exact hs D i v T H1 _ hD hi h2 p hT (sm_new hT) upd_same) (fun H' p => hd D H' hD p)
local macro_rules | `(tactic| tm_at "rs") => `(tactic| first | ((with_reducible refine' w_iEte ?h ?k); (case h => tm_at "rst")) | fail "no")
local macro_rules | `(tactic| tm_at "rs") => `(tactic| first | with_reducible refine w_iEt ?_ | fail "no")
/-! own classes: len, repr, str, truth, != of lists of them -/
/-- what is wished of an own method that stands behind a built-in -/
def rUnO (C : Addr) (sp : Sp) (E : XK) (g : V → Prop) : List V → Hp → VK → Prop := fun xs H Q => ∃ a dx fs, xs = [.ref a] ∧ H a = some (.ins C dx fs) ∧ sp [.ref a] H (fun v H' => g v ∧ Q v H') E
def IsLen (v : V) : Prop := ∃ i : Int, v = .int i ∧ 0 ≤ i ∧ i < 2 ^ 63
theorem own_at {X : Cx} {pins : List (Addr × Obj)} {σ : L2.St} {H : Hp} {s : Shared} {a C dx : Addr} {fs : List (Str × V)} (I : Inv X pins σ H s) (ha : H a = some (.ins C dx fs)) : ∃ ox od, PySem.W.InstAt s.heap a ox C od := by
  obtain ⟨mA, J, _⟩ := ins_get I.hok ha
  obtain ⟨od, J, _⟩ := J.look
  exact ⟨_, _, J⟩
section
variable {X : Cx} {CX : CXT} {C : Addr} {n : Nat} {ps : List Str} {sp : Sp} {E : XK}
theorem cr_lenO (G : DefO X.prog X.w X.K X.mg X.base CX C "__len__" n ps sp) (hr : RoomG (n + 1) X.A) (hx : Passes CX X E) : CallR X (.builtin "len") (rUnO C sp E IsLen) := by
  obtain ⟨f, fd, hs, hf, F, hb⟩ := G.ex
  intro pins s σ H xs us Q I rx h
  obtain ⟨a, dx, fs, rfl, ha, h⟩ := h
  obtain ⟨u, rfl, ru⟩ := vals1 rx
  cases ru
  obtain ⟨ox, od, J⟩ := own_at I ha
  obtain ⟨m, hF⟩ := I.fr
  refine PySem.W.len_K hF I.ok.mod.kin J hs hf ?_
  refine wpAny_mono (run_gA F hr.in1 rfl hb hx I (show Vals [V.ref a] [Value.ref a] from .cons rfl .nil) h) (fun r z q => ?_) fun _ _ e => e
  obtain ⟨v, H', I', rv, ⟨i, rfl, h0, h1⟩, q⟩ := q
  obtain ⟨t, rfl⟩ := rv
  exact ⟨⟨h0, h1⟩, .int i, H', I'.tok _, ⟨_, rfl⟩, q⟩
end
theorem w_unO {C a dx : Addr} {fs : List (Str × V)} {sp : Sp} {E : XK} {g : V → Prop} {H : Hp} {Q : VK} (ha : H a = some (.ins C dx fs)) (k : sp [.ref a] H (fun v H' => g v ∧ Q v H') E) : rUnO C sp E g [.ref a] H Q := ⟨a, dx, fs, rfl, ha, k⟩
/-! lists of own things, != that finds all alike -/
def Rw.gv : Rw → V
  | .br _ g => .int (g : Nat)
  | .go g => .int (g : Nat)
  | _ => .non
/-- a run that comes to a stop -/
def StpR (rs : List Rw) (M : Nat) (bs : List Nat) : Prop := ∀ pre last, runL rs M (0, bs) = pre ++ [last] → rs[last.1]? = some .st
theorem run_bd {m : Nat} {rs : List Rw} {bs : List Nat} {M : Nat} (hg : Prg m rs) (hl : bs.length = m) (hc : ∀ c ∈ bs, c ≤ 1000) (hM : M ≤ 1000) : SdBd (runL rs M (0, bs)) 100000 := fun s hs => by
  have o := runL_ok hg (SOk.start hg hl hc) s hs
  have b1 := hg.b1
  have b5 := hg.b5
  refine ⟨fun e => ?_, by rw [o.l]; exact b5, fun c h => Nat.le_trans (o.c c h) (by omega)⟩
  have := o.l
  rw [e] at this
  have : (0 : Nat) = m := this
  omega
theorem run_ne (rs : List Rw) (M : Nat) (s : Nat × List Nat) : runL rs M s ≠ [] := by
  obtain ⟨l, h⟩ := runL_head rs M s
  rw [h]
  simp
/-! sayings: a word, two sides -/
def SayC (K : PySem.W.Frag) (C : Addr) : Prop := ClsN K "Saying" C ["word", "left", "right"]
def SayAt (K : PySem.W.Frag) (H : Hp) (v : V) (w : Str) (l r : V) : Prop := ∃ p C dx, v = .ref p ∧ SayC K C ∧ H p = some (.ins C dx [("word", .str w), ("left", l), ("right", r)])
theorem SayAt.sm {K : PySem.W.Frag} {H H' : Hp} {v l r : V} {w : Str} (h : SayAt K H v w l r) (e : Sm H H') : SayAt K H' v w l r := by
  obtain ⟨p, C, dx, rfl, c, q⟩ := h
  exact ⟨p, C, dx, rfl, c, e _ _ q⟩
theorem SayAt.kpL {K : PySem.W.Frag} {H H' : Hp} {v l r : V} {w : Str} {b : Addr} {ys : List V} (h : SayAt K H v w l r) (hb : H b = some (.lst ys)) (e : Kp b H H') : SayAt K H' v w l r := by
  obtain ⟨p, C, dx, rfl, c, q⟩ := h
  exact ⟨p, C, dx, rfl, c, e _ _ (by intro z; rw [z, hb] at q; cases q) q⟩
theorem w_fWord {K : PySem.W.Frag} {H : Hp} {Q : VK} {v l r : V} {w : Str} (h : SayAt K H v w l r) (k : Q (.str w) H) : FldE K "word" Q v H := by
  obtain ⟨p, C, dx, rfl, c, q⟩ := h
  exact ⟨p, C, dx, _, _, rfl, q, c.cl, c.na _ (by simp), rfl, k⟩
theorem w_fLeft {K : PySem.W.Frag} {H : Hp} {Q : VK} {v l r : V} {w : Str} (h : SayAt K H v w l r) (k : Q l H) : FldE K "left" Q v H := by
  obtain ⟨p, C, dx, rfl, c, q⟩ := h
  exact ⟨p, C, dx, _, _, rfl, q, c.cl, c.na _ (by simp), rfl, k⟩
theorem w_fRight {K : PySem.W.Frag} {H : Hp} {Q : VK} {v l r : V} {w : Str} (h : SayAt K H v w l r) (k : Q r H) : FldE K "right" Q v H := by
  obtain ⟨p, C, dx, rfl, c, q⟩ := h
  exact ⟨p, C, dx, _, _, rfl, q, c.cl, c.na _ (by simp), rfl, k⟩
local macro_rules | `(tactic| tm_at "rsay") => `(tactic| first | with_reducible assumption | ((refine' SayAt.sm ?sa ?sb); (case sb => with_reducible assumption); (case sa => tm_at "rsay")) | fail "no")
local macro_rules | `(tactic| tm_at "rs") => `(tactic| first | ((with_reducible refine' w_fRight ?h ?k); (case h => tm_at "rsay")) | fail "no")
local macro_rules | `(tactic| tm_at "rs") => `(tactic| first | ((with_reducible refine' w_fLeft ?h ?k); (case h => tm_at "rsay")) | fail "no")
local macro_rules | `(tactic| tm_at "rs") => `(tactic| first | ((with_reducible refine' w_fWord ?h ?k); (case h => tm_at "rsay")) | fail "no")
/-! a stack of terms to be worked off, the top first -/
/-- what lies on the stack, the top last -/
def StAt (K : PySem.W.Frag) (H : Hp) (q : V) (s : Tm × Bool) : Prop := ∃ p x, q = .ref p ∧ H p = some (.tup [x, .bl s.2]) ∧ TmAt K H s.1 x
theorem StAt.imp {K : PySem.W.Frag} {H H' : Hp} {q : V} {s : Tm × Bool} (h : ∀ p xs, H p = some (.tup xs) → H' p = some (.tup xs)) (r : StAt K H q s) : StAt K H' q s := by
  obtain ⟨p, x, e, k, t⟩ := r
  exact ⟨p, x, e, h _ _ k, t.imp h⟩
/-! sayings of the word same, terms summed -/
def SayT (K : PySem.W.Frag) (H : Hp) (v : V) (ab : Tm × Tm) : Prop := ∃ l r, SayAt K H v "same" l r ∧ TmAt K H ab.1 l ∧ TmAt K H ab.2 r
theorem SayT.sm {K : PySem.W.Frag} {H H' : Hp} {v : V} {ab : Tm × Tm} (h : SayT K H v ab) (e : Sm H H') : SayT K H' v ab := by
  obtain ⟨l, r, a, b, c⟩ := h
  exact ⟨l, r, a.sm e, b.sm e, c.sm e⟩
def TmsAt (K : PySem.W.Frag) (H : Hp) (vs : List V) (ts : List Tm) : Prop := Paired (fun v t => TmAt K H t v) vs ts
theorem TmsAt.sm {K : PySem.W.Frag} {H H' : Hp} {vs : List V} {ts : List Tm} (h : TmsAt K H vs ts) (e : Sm H H') : TmsAt K H' vs ts := paired_mono (fun _ _ q => q.sm e) h
theorem TmsAt.kpL {K : PySem.W.Frag} {H H' : Hp} {vs : List V} {ts : List Tm} {b : Addr} {ys : List V} (h : TmsAt K H vs ts) (hb : H b = some (.lst ys)) (e : Kp b H H') : TmsAt K H' vs ts := paired_mono (fun _ _ q => q.kpL hb e) h
theorem TmsAt.add {K : PySem.W.Frag} {H : Hp} {vs : List V} {ts : List Tm} {v : V} {t : Tm} (h : TmsAt K H vs ts) (e : TmAt K H t v) : TmsAt K H (vs ++ [v]) (ts ++ [t]) := paired_app h (.cons e .nil)
def sumT : List Tm → Tm
  | [] => .num 0
  | t :: ts => ts.foldl (fun a b => .op "plus" a b) t
theorem sumT_add {ts : List Tm} {t : Tm} (h : ts ≠ []) : sumT (ts ++ [t]) = .op "plus" (sumT ts) t := by
  cases ts with
  | nil => exact absurd rfl h
  | cons a as =>
    show (as ++ [t]).foldl _ a = _
    rw [List.foldl_append]
    rfl
/-! f-strings -/
def JoE (ts : List TE) (acc : Str) (σ : L2.St) (Q : Str → Hp → Prop) (x : V) (H : Hp) : Prop := ∃ y : Str, x = .str y ∧ (acc ++ y).length ≤ sizeLine ∧ tJs ts (acc ++ y) σ H Q
def FmE (Q : VK) (x : V) (H : Hp) : Prop := (∃ y : Str, x = .str y ∧ y.length ≤ sizeLine ∧ Q (.str y) H) ∨ ∃ i : Int, x = .int i ∧ i.natAbs.log2 < 1920 ∧ Q (.str (toString i)) H
section
variable {σ : L2.St} {H : Hp} {Q : VK} {QS : Str → Hp → Prop} {ts : List TE} {t : TE} {acc y : Str} {i : Int}
theorem w_js (k : tJs ts Str.empty σ H fun out H1 => Q (.str out) H1) : (fun σ H Q => tJs ts Str.empty σ H fun out H1 => Q (.str out) H1 : TE) σ H Q := k
theorem w_j0 (k : QS acc H) : tJs [] acc σ H QS := k
theorem w_jc (k : t σ H (JoE ts acc σ QS)) : tJs (t :: ts) acc σ H QS := k
theorem w_je (z : (acc ++ y).length ≤ sizeLine) (k : tJs ts (acc ++ y) σ H QS) : JoE ts acc σ QS (.str y) H := ⟨y, rfl, z, k⟩
theorem str_e0 {y : Str} : Str.empty ++ y = y := by
  cases y with
  | mk c =>
    show Str.mk (#[] ++ c) = _
    rw [Array.empty_append]
theorem w_je0 (z : y.length ≤ sizeLine) (k : tJs ts y σ H QS) : JoE ts Str.empty σ QS (.str y) H := ⟨y, rfl, by rw [str_e0]; exact z, by rw [str_e0]; exact k⟩
theorem w_fm (k : t σ H (FmE Q)) : tFmt t σ H Q := k
theorem w_fmS (z : y.length ≤ sizeLine) (k : Q (.str y) H) : FmE Q (.str y) H := .inl ⟨y, rfl, z, k⟩
theorem w_fmI (z : i.natAbs.log2 < 1920) (k : Q (.str (toString i)) H) : FmE Q (.int i) H := .inr ⟨i, rfl, z, k⟩
theorem log_i64 (h : i.natAbs < 2 ^ 64) : i.natAbs.log2 < 1920 := PySem.Spec.log2_small (Nat.lt_of_lt_of_le h (by decide +kernel))
end
theorem tos_le {i : Int} (h : i.natAbs < 2 ^ 64) : (Str.ofString (toString i)).length ≤ 25 := by
  have e := int_text_length_le10 (k := 20) (by decide) (Nat.lt_of_lt_of_le h (show 2 ^ 64 ≤ 10 ^ 20 by decide))
  rw [PySem.ofString_length]
  omega
theorem sz_app {a b : Str} (h : b.length ≤ 25) (k : a.length ≤ 1000) : (a ++ b).length ≤ sizeLine := by
  rw [app_len]
  exact sz_of (by omega)
local macro_rules | `(tactic| tm_at "rsl") => `(tactic| first | with_reducible assumption | exact sz_of (by decide) | (apply sz_of; omega) | ((refine sz_app (tos_le ?h) ?i); (case h => omega); (case i => first | omega | decide)) | ((apply sz_of); (simp only [app_len]); omega) | fail "no")
local macro_rules | `(tactic| tm_at "rs") => `(tactic| first | ((with_reducible refine w_fmI ?h ?_); (case h => (apply log_i64; omega))) | fail "no")
local macro_rules | `(tactic| tm_at "rs") => `(tactic| first | ((with_reducible refine w_fmS ?h ?_); (case h => tm_at "rsl")) | fail "no")
local macro_rules | `(tactic| tm_at "rs") => `(tactic| first | ((with_reducible refine w_je ?h ?_); (case h => tm_at "rsl")) | fail "no")
local macro_rules | `(tactic| tm_at "rs") => `(tactic| first | ((with_reducible refine w_je0 ?h ?_); (case h => tm_at "rsl")) | fail "no")
local macro_rules | `(tactic| tm_at "rs") => `(tactic| first | with_reducible refine w_fm ?_ | fail "no")
local macro_rules | `(tactic| tm_at "rs") => `(tactic| first | with_reducible refine w_j0 ?_ | fail "no")
local macro_rules | `(tactic| tm_at "rs") => `(tactic| first | with_reducible refine w_jc ?_ | fail "no")
local macro_rules | `(tactic| tm_at "rs") => `(tactic| first | with_reducible refine w_js ?_ | fail "no")
/-! a letter and a number; lists of such -/
def nmS (c : Str) (j : Nat) : Str := c ++ Str.ofString (toString ((j : Nat) : Int))
/-- plain texts of few signs -/
def NmOk (l : List Str) : Prop := ∀ z ∈ l, Low z ∧ z.length ≤ 40
theorem NmOk.app {l m : List Str} (h : NmOk l) (k : NmOk m) : NmOk (l ++ m) := fun z hz => (List.mem_append.mp hz).elim (h z) (k z)
/-! list(range(n)) -/
def LrE (Q : VK) (x : V) (H : Hp) : Prop := ∃ n, x = .int n ∧ (RgOk 0 n ∧ ∀ q, H q = none → Q (.ref q) (upd H q (.lst (rgV 0 n))))
theorem w_lrg {ta : TE} {σ : L2.St} {H : Hp} {Q : VK} (k : ta σ H (LrE Q)) : tLstRg (tRg1 ta) σ H Q := k
theorem rg_nV (n : Nat) : rgV 0 ((n : Nat) : Int) = nV (List.range n) := by
  unfold rgV nV
  rw [show (((n : Nat) : Int) - 0).toNat = n by omega]
  refine List.map_congr_left fun i _ => ?_
  rw [Int.zero_add]
theorem w_lre {n : Nat} {H : Hp} {Q : VK} (h : n ≤ 10000) (k : ∀ p H', H p = none → Sm H H' → H' p = some (.lst (nV (List.range n))) → Q (.ref p) H') : LrE Q (.int (n : Nat)) H :=
  ⟨_, rfl, RgOk.of_le (by decide) (by omega) (by decide) (by omega), fun p hp => k p _ hp (sm_new hp) (by rw [upd_same, rg_nV])⟩
local macro_rules | `(tactic| tm_at "rs") => `(tactic| first | ((with_reducible refine' w_lre ?h (fun _ _ _ _ _ => ?k)); (case h => omega)) | fail "no")
local macro_rules | `(tactic| tm_at "rs") => `(tactic| first | with_reducible refine w_lrg ?_ | fail "no")
/-! rows one later, behind a go -/
def sh1 (s : Nat × List Nat) : Nat × List Nat := (s.1 + 1, s.2)
theorem cl_nats : ∀ l : List Nat, PyData.canLayAll0 (nD l) = true ∧ PyData.depthAll (nD l) = 0
  | [] => ⟨rfl, rfl⟩
  | x :: l => by
    obtain ⟨h1, h2⟩ := cl_nats l
    unfold nD at h1 h2
    exact ⟨by simp [nD, PyData.canLayAll0, PyData.canLay0, h1], by simp [nD, PyData.depthAll, PyData.depth, h2]⟩
/-! rows alike -/
theorem str_beq {a c : Str} (h : a ≠ c) : (a == c) = false := by simpa using h
theorem rw_eqv (r q : Rw) : PyData.eqv (.tuple r.ds) (.tuple q.ds) = decide (r = q) := by
  have n12 := str_beq (show Str.ofString "raise" ≠ Str.ofString "lower" by decide +kernel)
  have n13 := str_beq (show Str.ofString "raise" ≠ Str.ofString "if" by decide +kernel)
  have n14 := str_beq (show Str.ofString "raise" ≠ Str.ofString "go" by decide +kernel)
  have n15 := str_beq (show Str.ofString "raise" ≠ Str.ofString "stop" by decide +kernel)
  have n23 := str_beq (show Str.ofString "lower" ≠ Str.ofString "if" by decide +kernel)
  have n24 := str_beq (show Str.ofString "lower" ≠ Str.ofString "go" by decide +kernel)
  have n25 := str_beq (show Str.ofString "lower" ≠ Str.ofString "stop" by decide +kernel)
  have n34 := str_beq (show Str.ofString "if" ≠ Str.ofString "go" by decide +kernel)
  have n35 := str_beq (show Str.ofString "if" ≠ Str.ofString "stop" by decide +kernel)
  have n45 := str_beq (show Str.ofString "go" ≠ Str.ofString "stop" by decide +kernel)
  have n21 := str_beq (show Str.ofString "lower" ≠ Str.ofString "raise" by decide +kernel)
  have n31 := str_beq (show Str.ofString "if" ≠ Str.ofString "raise" by decide +kernel)
  have n41 := str_beq (show Str.ofString "go" ≠ Str.ofString "raise" by decide +kernel)
  have n51 := str_beq (show Str.ofString "stop" ≠ Str.ofString "raise" by decide +kernel)
  have n32 := str_beq (show Str.ofString "if" ≠ Str.ofString "lower" by decide +kernel)
  have n42 := str_beq (show Str.ofString "go" ≠ Str.ofString "lower" by decide +kernel)
  have n52 := str_beq (show Str.ofString "stop" ≠ Str.ofString "lower" by decide +kernel)
  have n43 := str_beq (show Str.ofString "go" ≠ Str.ofString "if" by decide +kernel)
  have n53 := str_beq (show Str.ofString "stop" ≠ Str.ofString "if" by decide +kernel)
  have n54 := str_beq (show Str.ofString "stop" ≠ Str.ofString "go" by decide +kernel)
  have ib : ∀ a b : Nat, ((a : Int) == (b : Int)) = decide (a = b) := fun a b => by
    by_cases h : a = b
    · subst h; simp
    · rw [decide_eq_false h]
      simpa using fun e : (a : Int) = b => h (Int.ofNat_inj.mp e)
  cases r <;> cases q <;> simp [Rw.ds, PyData.eqv, PyData.eqvAll, n12, n13, n14, n15, n23, n24, n25, n34, n35, n45, n21, n31, n41, n51, n32, n42, n52, n43, n53, n54, ib]
theorem rw_cl (r : Rw) : (PyData.tuple r.ds).canLay0 = true ∧ (PyData.tuple r.ds).depth ≤ 1 := by
  have s1 : PyData.strOk (Str.ofString "raise") = true := by decide +kernel
  have s2 : PyData.strOk (Str.ofString "lower") = true := by decide +kernel
  have s3 : PyData.strOk (Str.ofString "if") = true := by decide +kernel
  have s4 : PyData.strOk (Str.ofString "go") = true := by decide +kernel
  have s5 : PyData.strOk (Str.ofString "stop") = true := by decide +kernel
  cases r <;> simp [Rw.ds, PyData.canLay0, PyData.canLayAll0, PyData.depth, PyData.depthAll, s1, s2, s3, s4, s5]
theorem rw_shaped (r : Rw) : SeqAt.shaped (.tuple r.ds) = true := by
  obtain ⟨h1, h2⟩ := rw_cl r
  show ((PyData.tuple r.ds).canLay0 && decide ((PyData.tuple r.ds).depth ≤ 64)) = true
  rw [h1, decide_eq_true (by omega)]
  rfl
def rsD (rs : List Rw) : List PyData := rs.map fun r => .tuple r.ds
theorem RwAt.dp {K : PySem.W.Frag} {H : Hp} {v : V} {r : Rw} (h : RwAt H v r) : Dp K H v (.tuple r.ds) := by
  obtain ⟨p, rfl, q⟩ := h
  exact .tup (st_of q) (TpL.dp _ _ r.tpl)
theorem RwsAt.dp {K : PySem.W.Frag} {H : Hp} : ∀ {vs : List V} {rs : List Rw}, RwsAt H vs rs → DpAll K H vs (rsD rs)
  | _, _, .nil => .nil
  | _, _, .cons a b => .cons a.dp (RwsAt.dp b)
/-- a row against another one -/
theorem w_eqRow {K : PySem.W.Frag} {H : Hp} {Q : VK} {a b : Addr} {r q : Rw} (h1 : H a = some (.tup r.vs)) (h2 : H b = some (.tup q.vs)) (k : Q (.bl (decide (r = q))) H) : gEq K (.ref a) (.ref b) H Q := by
  refine .inr ⟨.tuple r.ds, .tuple q.ds, (rw_one h1).dp, (rw_one h2).dp, rw_shaped r, rw_shaped q, ?_⟩
  rw [rw_eqv]
  exact k
/-- the places of a row among rows -/
def plc (rs : List Rw) (q : Rw) (i : Nat) : List Nat := (List.range i).filter fun k => decide (rs[k]? = some q)
theorem plc_succ {rs : List Rw} {q : Rw} {i : Nat} : plc rs q (i + 1) = plc rs q i ++ (if rs[i]? = some q then [i] else []) := by
  unfold plc
  rw [List.range_succ, List.filter_append]
  by_cases h : rs[i]? = some q
  · rw [if_pos h, List.filter_cons_of_pos (by rw [decide_eq_true h]), List.filter_nil]
  · rw [if_neg h, List.filter_cons_of_neg (by rw [decide_eq_false h]; exact Bool.false_ne_true), List.filter_nil]
def mvR (w : Str) (j : Nat) : Rw := if w = "raise" then .up j else .dn j
theorem w_isiNb {K : PySem.W.Frag} {H : Hp} {Q : VK} (k : Q (.bl false) H) : rIsi K [.non, .ty "bool"] H Q := ⟨_, _, _, _, _, rfl, .ty _, .base .non, kit_ty (by decide +kernel), k⟩
theorem w_neNN {K : PySem.W.Frag} {H : Hp} {Q : VK} (k : Q (.bl false) H) : gNe K .non .non H Q := .inl ⟨rfl, by simpa using k⟩
local macro_rules | `(tactic| tm_at "rs") => `(tactic| first | with_reducible refine w_neNN ?_ | fail "no")
local macro_rules | `(tactic| tm_at "rs") => `(tactic| first | with_reducible refine w_isiNb ?_ | fail "no")
theorem mv_vs {w : Str} {j : Nat} (hw : w = "raise" ∨ w = "lower") : (mvR w j).vs = [.str w, .int (j : Int)] := by
  have hl : ¬ ((Str.ofString "lower") = Str.ofString "raise") := by decide +kernel
  rcases hw with rfl | rfl
  · show (mvR (Str.ofString "raise") j).vs = _
    rw [show mvR (Str.ofString "raise") j = .up j from if_pos rfl]
    rfl
  · show (mvR (Str.ofString "lower") j).vs = _
    rw [show mvR (Str.ofString "lower") j = .dn j from if_neg hl]
    rfl
/-! which boxes are asked -/
def isAsk (rs : List Rw) (j k : Nat) : Bool := match rs[k]? with
  | some (.br i g) => decide (i = j) && decide (g ≠ k + 1)
  | _ => false
def askB (rs : List Rw) (j n : Nat) : Bool := (List.range n).any (isAsk rs j)
def asked (m : Nat) (rs : List Rw) : List Nat := (List.range m).filter fun j => askB rs j rs.length
theorem askB_succ {rs : List Rw} {j n : Nat} : askB rs j (n + 1) = (askB rs j n || isAsk rs j n) := by
  unfold askB
  rw [List.range_succ, List.any_append]
  simp
theorem isAsk_br {rs : List Rw} {j k i g : Nat} (h : rs[k]? = some (.br i g)) : isAsk rs j k = (decide (i = j) && decide (g ≠ k + 1)) := by
  unfold isAsk
  rw [h]
theorem isAsk_no {rs : List Rw} {j k : Nat} {r : Rw} (h : rs[k]? = some r) (n : ∀ i g, r ≠ .br i g) : isAsk rs j k = false := by
  unfold isAsk
  rw [h]
  cases r <;> first | rfl | exact absurd rfl (n _ _)
theorem askB_lt {rs : List Rw} {j m n i : Nat} (ho : RwsOk m n rs) (h : askB rs j i = true) : j < m := by
  obtain ⟨k, hk, q⟩ := List.any_eq_true.mp h
  unfold isAsk at q
  cases e : rs[k]? with
  | none => rw [e] at q; cases q
  | some r =>
    rw [e] at q
    have o := ho r (List.mem_of_getElem? e)
    cases r with
    | br a g =>
      have q := (Bool.and_eq_true_iff.mp q).1
      rw [← of_decide_eq_true q]
      exact o.1
    | _ => cases q
theorem asked_lt {m : Nat} {rs : List Rw} : ∀ j ∈ asked m rs, j < m := fun j hj => List.mem_range.mp (List.mem_filter.mp hj).1
theorem asked_len {m : Nat} {rs : List Rw} : (asked m rs).length ≤ m := by
  have := List.length_filter_le (fun j => askB rs j rs.length) (List.range m)
  rw [List.length_range] at this
  exact this
theorem range_lt : ∀ m : Nat, (List.range m).Pairwise (· < ·)
  | 0 => .nil
  | m + 1 => by
    rw [List.range_succ]
    refine List.pairwise_append.mpr ⟨range_lt m, by simp, fun a ha b hb => ?_⟩
    rw [List.mem_singleton.mp hb]
    exact List.mem_range.mp ha
theorem asked_pw {m : Nat} {rs : List Rw} : (asked m rs).Pairwise (· < ·) := (range_lt m).filter _
/-- two rising lists of the same numbers -/
theorem rise_uniq : ∀ {l k : List Int}, l.Pairwise (· < ·) → k.Pairwise (· < ·) → (∀ x, x ∈ l ↔ x ∈ k) → l = k
  | [], [], _, _, _ => rfl
  | [], y :: k, _, _, h => by have := (h y).mpr List.mem_cons_self; cases this
  | x :: l, [], _, _, h => by have := (h x).mp List.mem_cons_self; cases this
  | x :: l, y :: k, p, q, h => by
    have p1 := List.pairwise_cons.mp p
    have q1 := List.pairwise_cons.mp q
    have e : x = y := by
      have h1 := (h x).mp List.mem_cons_self
      have h2 := (h y).mpr List.mem_cons_self
      rcases List.mem_cons.mp h1 with e | h1
      · exact e
      rcases List.mem_cons.mp h2 with e | h2
      · exact e.symm
      have a := q1.1 x h1
      have b := p1.1 y h2
      omega
    subst e
    refine congrArg (x :: ·) (rise_uniq p1.2 q1.2 fun z => ?_)
    constructor
    · intro hz
      rcases List.mem_cons.mp ((h z).mp (List.mem_cons_of_mem _ hz)) with e | h2
      · have := p1.1 z hz
        omega
      · exact h2
    · intro hz
      rcases List.mem_cons.mp ((h z).mpr (List.mem_cons_of_mem _ hz)) with e | h2
      · have := q1.1 z hz
        omega
      · exact h2
theorem pw_strict : ∀ {l : List Int}, l.Pairwise (· ≤ ·) → l.Nodup → l.Pairwise (· < ·)
  | [], _, _ => .nil
  | x :: l, p, n => by
    have p1 := List.pairwise_cons.mp p
    have n1 := List.nodup_cons.mp n
    refine List.pairwise_cons.mpr ⟨fun y hy => ?_, pw_strict p1.2 n1.2⟩
    have a := p1.1 y hy
    have b : x ≠ y := fun e => n1.1 (e ▸ hy)
    omega
def natI (l : List Nat) : List Int := l.map fun n => ((n : Nat) : Int)
theorem natI_V (l : List Nat) : (natI l).map V.int = nV l := by
  unfold natI nV
  rw [List.map_map]
  rfl
theorem natI_mem {l : List Nat} {x : Int} : x ∈ natI l ↔ ∃ n ∈ l, x = ((n : Nat) : Int) := by
  unfold natI
  rw [List.mem_map]
  exact ⟨fun ⟨n, h, e⟩ => ⟨n, h, e.symm⟩, fun ⟨n, h, e⟩ => ⟨n, h, e.symm⟩⟩
theorem sort_asked {ys : List Int} {ks l : List Nat} (p : ys.Perm (natI ks)) (s : ys.Pairwise (· ≤ ·)) (n : ks.Nodup) (hl : l.Pairwise (· < ·)) (h : ∀ j, j ∈ ks ↔ j ∈ l) : ys = natI l := by
  have nk : (natI ks).Nodup := by
    unfold natI
    rw [List.nodup_iff_pairwise_ne] at n ⊢
    refine List.pairwise_map.mpr (n.imp fun a => ?_)
    omega
  have ny : ys.Nodup := p.nodup_iff.mpr nk
  refine rise_uniq (pw_strict s ny) ?_ fun x => ?_
  · unfold natI
    exact List.pairwise_map.mpr (hl.imp fun a => by omega)
  · rw [p.mem_iff, natI_mem, natI_mem]
    exact ⟨fun ⟨n, a, b⟩ => ⟨n, (h n).mp a, b⟩, fun ⟨n, a, b⟩ => ⟨n, (h n).mpr a, b⟩⟩
/-! a dict with numbers as keys -/
def nKey (n : Nat) : Key := Sum.inl ((n : Nat) : Int)
theorem nKey_inj {a b : Nat} (h : nKey a = nKey b) : a = b := by
  have := Sum.inl.inj h
  omega
theorem putK_old {kvs : List (Key × V)} {k : Key} {v : V} (h : k ∈ kvs.map (·.1)) : (putK kvs k v).map (·.1) = kvs.map (·.1) := by
  obtain ⟨p, hp, e⟩ := List.mem_map.mp h
  unfold putK
  rw [if_pos (List.any_eq_true.mpr ⟨p, hp, decide_eq_true e⟩), List.map_map]
  refine List.map_congr_left fun x _ => ?_
  show (if x.1 = k then (x.1, v) else x).1 = x.1
  split <;> rfl
theorem putK_new {kvs : List (Key × V)} {k : Key} {v : V} (h : ¬ k ∈ kvs.map (·.1)) : (putK kvs k v).map (·.1) = kvs.map (·.1) ++ [k] := by
  unfold putK
  rw [if_neg fun q => ?_, List.map_append]
  · rfl
  · obtain ⟨p, hp, e⟩ := List.any_eq_true.mp q
    exact h (List.mem_map.mpr ⟨p, hp, of_decide_eq_true e⟩)
theorem w_dpeN {D : Ends} {σ : L2.St} {H : Hp} {a : Addr} {n : Nat} {v : V} {kvs : List (Key × V)} (h : H a = some (.dK kvs)) (l : kvs.length < sizeLine) (k : ∀ H', Kp a H H' → H' a = some (.dK (putK kvs (nKey n) v)) → NX D σ H') : DpE D σ v (.ref a) (.int (n : Nat)) H :=
  ⟨a, _, rfl, .inl ⟨kvs, nKey n, h, rfl, l, rfl⟩, k _ kp_upd upd_same⟩
def gSrtD : List V → Hp → VK → Prop := fun xs H Q => ∃ (a : Addr) (kvs : List (Key × V)) (ks : List Int), xs = [.ref a] ∧ Rd H a (.dK kvs) ∧ kvs.map (·.1) = ks.map Sum.inl ∧ ks.length < 64 ∧
    ∀ (ys : List Int) (p : Addr), ys.Perm ks → ys.Pairwise (· ≤ ·) → H p = none → Q (.ref p) (upd H p (.lst (ys.map V.int)))
theorem call_gSrtD {X : Cx} (hc : X.calm = true) : CallR X (.builtin "sorted") gSrtD := call_sortedDI hc
theorem w_srtD {H : Hp} {Q : VK} {a : Addr} {kvs : List (Key × V)} {ks l : List Nat} (h : H a = some (.dK kvs)) (e : kvs.map (·.1) = ks.map nKey) (z : ks.length < 64) (n : ks.Nodup) (hl : l.Pairwise (· < ·)) (hm : ∀ j, j ∈ ks ↔ j ∈ l) (k : ∀ p H', H p = none → Sm H H' → H' p = some (.lst (nV l)) → Q (.ref p) H') : gSrtD [.ref a] H Q := by
  refine ⟨a, kvs, natI ks, rfl, .inl h, ?_, by unfold natI; rw [List.length_map]; exact z, fun ys p pr sr np => ?_⟩
  · rw [e]
    unfold natI
    rw [List.map_map]
    rfl
  · rw [sort_asked pr sr n hl hm, natI_V]
    exact k p _ np (sm_new np) upd_same
/-! lists of numbers against the empty one -/
theorem w_neNil {K : PySem.W.Frag} {H : Hp} {Q : VK} {a b : Addr} {l : List Nat} (h1 : SqL K H a (nV l)) (h2 : SqL K H b []) (k : Q (.bl (decide (l ≠ []))) H) : gNe K (.ref a) (.ref b) H Q := by
  have sh : ∀ m : List Nat, SeqAt.shaped (.list (nD m)) = true := fun m => by
    obtain ⟨c1, c2⟩ := cl_nats m
    have h3 : (PyData.list (nD m)).depth ≤ 64 := by
      simp only [PyData.depth]
      omega
    show ((PyData.list (nD m)).canLay0 && decide ((PyData.list (nD m)).depth ≤ 64)) = true
    rw [Bool.and_eq_true]
    exact ⟨by simp only [PyData.canLay0]; exact c1, decide_eq_true h3⟩
  refine .inr ⟨.list (nD l), .list (nD []), .lst h1 (TpL.dp _ _ (tpl_nat (H := H) l)), .lst h2 .nil, sh l, sh [], ?_⟩
  have e : (!PyData.eqv (.list (nD l)) (.list (nD []))) = decide (l ≠ []) := by
    cases l <;> simp [nD, PyData.eqv, PyData.eqvAll]
  rw [e]
  exact k
/-! str of a number -/
def gStrN : List V → Hp → VK → Prop := fun xs H Q => ∃ i : Int, xs = [.int i] ∧ i.natAbs.log2 < 1920 ∧ Q (.str (toString i)) H
theorem w_strN {i : Int} {H : Hp} {Q : VK} (h : i.natAbs < 2 ^ 64) (k : Q (.str (Str.ofString (toString i))) H) : gStrN [.int i] H Q := ⟨i, rfl, log_i64 h, k⟩
theorem sz_add {a b : Str} (h : b.length ≤ 25) (k : a.length ≤ 1000) : a.length + b.length ≤ sizeLine := sz_of (by omega)
local macro_rules | `(tactic| tm_at "rs") => `(tactic| first | ((with_reducible refine w_addS ?h ?_); (case h => (refine sz_add (tos_le ?i) ?j; (case i => omega); (case j => first | omega | decide)))) | fail "no")
local macro_rules | `(tactic| tm_at "rs") => `(tactic| first | ((with_reducible refine w_strN ?h ?_); (case h => omega)) | fail "no")
local macro_rules | `(tactic| tm_at "rs") => `(tactic| first | ((with_reducible refine' w_neNil ?h ?l ?k); (case h => tm_at "rsq"); (case l => tm_at "rsq")) | fail "no")
local macro_rules | `(tactic| tm_at "rs") => `(tactic| first | ((with_reducible refine' w_dpeN ?h ?l (fun _ _ _ => ?k)); (case h => tm_at "rlk"); (case l => tm_at "rsz")) | fail "no")
/-! sayings: a word and two terms; lists of them -/
abbrev SyW := Str × Tm × Tm
def SyAt (K : PySem.W.Frag) (H : Hp) (v : V) (s : SyW) : Prop := ∃ l r, SayAt K H v s.1 l r ∧ TmAt K H s.2.1 l ∧ TmAt K H s.2.2 r
theorem SyAt.sm {K : PySem.W.Frag} {H H' : Hp} {v : V} {s : SyW} (h : SyAt K H v s) (e : Sm H H') : SyAt K H' v s := by
  obtain ⟨l, r, a, b, c⟩ := h
  exact ⟨l, r, a.sm e, b.sm e, c.sm e⟩
theorem SyAt.kpL {K : PySem.W.Frag} {H H' : Hp} {v : V} {s : SyW} {b : Addr} {ys : List V} (h : SyAt K H v s) (hb : H b = some (.lst ys)) (e : Kp b H H') : SyAt K H' v s := by
  obtain ⟨l, r, p, q, t⟩ := h
  exact ⟨l, r, p.kpL hb e, q.kpL hb e, t.kpL hb e⟩
def SysAt (K : PySem.W.Frag) (H : Hp) (vs : List V) (ss : List SyW) : Prop := Paired (SyAt K H) vs ss
theorem SysAt.sm {K : PySem.W.Frag} {H H' : Hp} {vs : List V} {ss : List SyW} (h : SysAt K H vs ss) (e : Sm H H') : SysAt K H' vs ss := paired_mono (fun _ _ q => q.sm e) h
theorem SysAt.kpL {K : PySem.W.Frag} {H H' : Hp} {vs : List V} {ss : List SyW} {b : Addr} {ys : List V} (h : SysAt K H vs ss) (hb : H b = some (.lst ys)) (e : Kp b H H') : SysAt K H' vs ss := paired_mono (fun _ _ q => q.kpL hb e) h
theorem SysAt.len {K : PySem.W.Frag} {H : Hp} {vs : List V} {ss : List SyW} (h : SysAt K H vs ss) : vs.length = ss.length := paired_len h
theorem SysAt.app {K : PySem.W.Frag} {H : Hp} {vs us : List V} {ss ts : List SyW} (h : SysAt K H vs ss) (k : SysAt K H us ts) : SysAt K H (vs ++ us) (ss ++ ts) := paired_app h k
theorem w_newOp {K : PySem.W.Frag} {H : Hp} {Q : VK} {w : Str} {x y : V} {a b : Tm} (ha : TmAt K H a x) (hb : TmAt K H b y) (k : ∀ p H', H p = none → Sm H H' → TmAt K H' (.op w a b) (.ref p) → Q (.ref p) H') : NewT [.str w, x, y] H Q :=
  w_newT (sz_of (Nat.le_of_ble_eq_true rfl)) fun p H' np sm g => k p H' np sm (tm_op g (ha.sm sm) (hb.sm sm))
theorem w_newS1 {K : PySem.W.Frag} {H : Hp} {Q : VK} {x : V} {s : SyW} (hs : SyAt K H x s) (k : ∀ p H' vs, H p = none → Sm H H' → H' p = some (.lst vs) → SysAt K H' vs [s] → vs.length = 1 → Q (.ref p) H') : NewL [x] H Q :=
  w_newL (sz_of (Nat.le_of_ble_eq_true rfl)) fun p H' np sm g => k p H' _ np sm g (.cons (hs.sm sm) .nil) rfl
theorem w_newS2 {K : PySem.W.Frag} {H : Hp} {Q : VK} {x y : V} {s t : SyW} (hs : SyAt K H x s) (ht : SyAt K H y t) (k : ∀ p H' vs, H p = none → Sm H H' → H' p = some (.lst vs) → SysAt K H' vs [s, t] → vs.length = 2 → Q (.ref p) H') : NewL [x, y] H Q :=
  w_newL (sz_of (Nat.le_of_ble_eq_true rfl)) fun p H' np sm g => k p H' _ np sm g (.cons (hs.sm sm) (.cons (ht.sm sm) .nil)) rfl
theorem w_appS {K : PySem.W.Frag} {H : Hp} {Q : VK} {l : Addr} {xs : List V} {ss : List SyW} {x : V} {s : SyW} (h : H l = some (.lst xs)) (hS : SysAt K H xs ss) (hs : SyAt K H x s) (z : xs.length ≤ 10000) (k : ∀ H' vs, Kp l H H' → H' l = some (.lst vs) → SysAt K H' vs (ss ++ [s]) → vs.length = xs.length + 1 → Q .non H') : rAppend (.ref l) [x] H Q :=
  w_app h (sz_lt (by omega)) fun H' kp g => k H' _ kp g ((hS.app (.cons hs .nil)).kpL h kp) (by rw [List.length_append]; rfl)
theorem w_extS {K : PySem.W.Frag} {H : Hp} {Q : VK} {l b : Addr} {xs ys : List V} {ss ts : List SyW} (h : H l = some (.lst xs)) (hS : SysAt K H xs ss) (hb : H b = some (.lst ys)) (hT : SysAt K H ys ts) (z : xs.length + ys.length ≤ 10000) (k : ∀ H' vs, Kp l H H' → H' l = some (.lst vs) → SysAt K H' vs (ss ++ ts) → vs.length = xs.length + ys.length → Q .non H') : rExtend (.ref l) [.ref b] H Q :=
  w_ext h hb (sz_of (by omega)) fun H' kp g => k H' _ kp g ((hS.app hT).kpL h kp) (by rw [List.length_append])
theorem w_catS {K : PySem.W.Frag} {H : Hp} {Q : VK} {l b : Addr} {xs ys : List V} {ss ts : List SyW} (h : H l = some (.lst xs)) (hS : SysAt K H xs ss) (hb : H b = some (.lst ys)) (hT : SysAt K H ys ts) (z : xs.length + ys.length ≤ 10000) (k : ∀ p H' vs, H p = none → Sm H H' → H' p = some (.lst vs) → SysAt K H' vs (ss ++ ts) → vs.length = xs.length + ys.length → Q (.ref p) H') : gAdd K (.ref l) (.ref b) H Q :=
  w_addL h hb (sz_of (by omega)) fun p H' np sm g => k p H' _ np sm g ((hS.app hT).sm sm) (by rw [List.length_append])
def NumAt (H : Hp) (n : Nat) (v : V) : Prop := ∀ K, TmAt K H (.num n) v
theorem NumAt.tm {K : PySem.W.Frag} {H : Hp} {n : Nat} {v : V} (h : NumAt H n v) : TmAt K H (.num n) v := h K
theorem w_newNu {H : Hp} {Q : VK} {n : Nat} (k : ∀ p H', H p = none → Sm H H' → NumAt H' n (.ref p) → Q (.ref p) H') : NewT [.str "num", .int ((n : Nat) : Int)] H Q :=
  w_newT (sz_of (Nat.le_of_ble_eq_true rfl)) fun p H' np sm g => k p H' np sm fun _ => tm_num g
theorem w_newNu1 {H : Hp} {Q : VK} {n : Nat} (k : ∀ p H', H p = none → Sm H H' → NumAt H' (n + 1) (.ref p) → Q (.ref p) H') : NewT [.str "num", .int ((n : Nat) + 1 : Int)] H Q :=
  w_newT (sz_of (Nat.le_of_ble_eq_true rfl)) fun p H' np sm g => k p H' np sm fun _ => tm_num g
local macro_rules | `(tactic| tm_at "rtm") => `(tactic| first | ((refine' NumAt.tm ?sa); (case sa => with_reducible assumption)) | fail "no")
local macro_rules | `(tactic| tm_at "rsy") => `(tactic| first | with_reducible assumption | ((refine' SyAt.sm ?sa ?sb); (case sb => with_reducible assumption); (case sa => tm_at "rsy")) | ((refine' SyAt.kpL ?sa ?sc ?sb); (case sb => with_reducible assumption); (case sc => tm_at "rlk"); (case sa => tm_at "rsy")) | fail "no")
local macro_rules | `(tactic| tm_at "rss") => `(tactic| first | with_reducible assumption | ((refine' SysAt.sm ?sa ?sb); (case sb => with_reducible assumption); (case sa => tm_at "rss")) | ((refine' SysAt.kpL ?sa ?sc ?sb); (case sb => with_reducible assumption); (case sc => tm_at "rlk"); (case sa => tm_at "rss")) | fail "no")
local macro_rules | `(tactic| tm_at "rs") => `(tactic| first | ((with_reducible refine' w_catS ?h ?i ?j ?l ?m (fun _ _ _ _ _ _ _ _ => ?k)); (case h => tm_at "rlk"); (case i => tm_at "rss"); (case j => tm_at "rlk"); (case l => tm_at "rss"); (case m => omega)) | fail "no")
local macro_rules | `(tactic| tm_at "rs") => `(tactic| first | ((with_reducible refine' w_extS ?h ?i ?j ?l ?m (fun _ _ _ _ _ _ => ?k)); (case h => tm_at "rlk"); (case i => tm_at "rss"); (case j => tm_at "rlk"); (case l => tm_at "rss"); (case m => omega)) | fail "no")
local macro_rules | `(tactic| tm_at "rs") => `(tactic| first | ((with_reducible refine' w_appS ?h ?i ?j ?l (fun _ _ _ _ _ _ => ?k)); (case h => tm_at "rlk"); (case i => tm_at "rss"); (case j => tm_at "rsy"); (case l => omega)) | fail "no")
local macro_rules | `(tactic| tm_at "rs") => `(tactic| first | ((with_reducible refine' w_newS2 ?h ?i (fun _ _ _ _ _ _ _ _ => ?k)); (case h => tm_at "rsy"); (case i => tm_at "rsy")) | fail "no")
local macro_rules | `(tactic| tm_at "rs") => `(tactic| first | ((with_reducible refine' w_newS1 ?h (fun _ _ _ _ _ _ _ _ => ?k)); (case h => tm_at "rsy")) | fail "no")
local macro_rules | `(tactic| tm_at "rs") => `(tactic| first | with_reducible refine w_newNu (fun _ _ _ _ _ => ?_) | fail "no")
local macro_rules | `(tactic| tm_at "rs") => `(tactic| first | with_reducible refine w_newNu1 (fun _ _ _ _ _ => ?_) | fail "no")
local macro_rules | `(tactic| tm_at "rs") => `(tactic| first | ((with_reducible refine' w_newOp ?h ?i (fun _ _ _ _ _ => ?k)); (case i => tm_at "rtm"); (case h => tm_at "rtm")) | fail "no")
local macro_rules | `(tactic| tm_at "rs") => `(tactic| first | ((with_reducible refine' w_newOp ?h ?i (fun _ _ _ _ _ => ?k)); (case h => tm_at "rtm"); (case i => tm_at "rtm")) | fail "no")
theorem nV_gt {l : List Nat} {i : Nat} {x : V} (h : (nV l)[i]? = some x) : ∃ n : Nat, l[i]? = some n ∧ x = .int (n : Nat) := by
  unfold nV at h
  rw [List.getElem?_map] at h
  cases e : l[i]? with
  | none => rw [e] at h; cases h
  | some n => rw [e] at h; exact ⟨n, rfl, (Option.some.inj h).symm⟩
theorem nVr_get {n i : Nat} {x : V} (h : (nV (List.range n))[i]? = some x) : i < n ∧ x = .int (i : Nat) := by
  obtain ⟨j, hj, rfl⟩ := nV_gt h
  rw [List.getElem?_range] at hj
  · cases hj
    exact ⟨(by
      have := (List.getElem?_eq_some_iff.mp h).1
      rw [nV_len, List.length_range] at this
      exact this), rfl⟩
  · have := (List.getElem?_eq_some_iff.mp h).1
    rw [nV_len, List.length_range] at this
    exact this
theorem SysAt.one {K : PySem.W.Frag} {H : Hp} {xs : List V} {ss : List SyW} {x : V} {s : SyW} (h : SysAt K H xs ss) (k : SyAt K H x s) : SysAt K H (xs ++ [x]) (ss ++ [s]) := h.app (.cons k .nil)
theorem map_rs {α : Type} (f : Nat → α) (i : Nat) : (List.range (i + 1)).map f = (List.range i).map f ++ [f i] := by rw [List.range_succ, List.map_append]; rfl
/-! what is said of a program -/
def pwAt (t : Tm) : Tm := .op "power" (.num 2) (.op "times" (.name "c") t)
def topT : Tm := pwAt (.op "plus" (.name "s") (.num 1))
def lsT (ks : List Nat) : List Tm := ks.map fun k => .name (nmS "l" k)
def same (a b : Tm) : SyW := (Str.ofString "same", a, b)
def undr (a b : Tm) : SyW := (Str.ofString "under", a, b)
def baseS (m n : Nat) : List SyW := [same (.name "h") (.op "plus" (.op "plus" (sumT ((List.range m).map fun j => .name (nmS "x" j))) (.num 1)) (.name "d")),
  same (.name "q") (.op "times" (.num 2) (.name "h")), same (.name "q") (.op "power" (.num 2) (.name "c")), same (.name "q") (.op "plus" (.num (n + 1)) (.name "g")),
  same (.op "plus" (.op "times" (.name "q") (.name "i")) (.num 1)) (.op "plus" topT (.name "i")), same (.op "plus" (.name "m") (.name "i")) (.op "times" (.name "h") (.name "i"))]
def stpK (rs : List Rw) (n : Nat) : List Nat := (List.range n).filter fun k => decide (rs[k]? = some .st)
def timeS (m : Nat) (rs : List Rw) : List SyW := (List.range m).map (fun j => undr (.name (nmS "r" j)) (.name "m")) ++ (List.range rs.length).map (fun k => undr (.name (nmS "l" k)) (.name "i")) ++
  [same (sumT (lsT (List.range rs.length))) (.name "i")] ++ [undr (.num 1) (.name (nmS "l" 0))] ++ [same (sumT (lsT (stpK rs rs.length))) (pwAt (.name "s"))] ++
  (asked m rs).map fun j => same (.op "plus" (.name (nmS "e" j)) (.op "times" (.num 2) (.name (nmS "r" j)))) (.op "times" (.name "q") (.name "i"))
def rowS (rs : List Rw) (k : Nat) : List SyW := match rs[k]? with
  | some .st => []
  | some (.go g) => [undr (.op "times" (.name "q") (.name (nmS "l" k))) (.name (nmS "l" g))]
  | some (.br j g) => if g = k + 1 then [undr (.op "times" (.name "q") (.name (nmS "l" k))) (.name (nmS "l" (k + 1)))]
    else [undr (.op "times" (.name "q") (.name (nmS "l" k))) (.op "plus" (.name (nmS "l" g)) (.name (nmS "l" (k + 1)))), undr (.op "times" (.name "q") (.name (nmS "l" k))) (.op "plus" (.name (nmS "l" (k + 1))) (.name (nmS "e" j)))]
  | some _ => [undr (.op "times" (.name "q") (.name (nmS "l" k))) (.name (nmS "l" (k + 1)))]
  | none => []
def boxS (rs : List Rw) (j : Nat) : SyW := same (.op "plus" (.op "times" (.name "q") (.op "plus" (.name (nmS "r" j)) (sumT (lsT (plc rs (.up j) rs.length))))) (.name (nmS "x" j)))
  (.op "plus" (.op "plus" (.name (nmS "r" j)) (.op "times" (.name "q") (sumT (lsT (plc rs (.dn j) rs.length))))) (.op "times" topT (.name (nmS "y" j))))
def rowsS (rs : List Rw) (n : Nat) : List SyW := ((List.range n).map (rowS rs)).flatten
def sysOf (m : Nat) (rs : List Rw) : List SyW := baseS m rs.length ++ timeS m rs ++ rowsS rs rs.length ++ (List.range m).map (boxS rs)
theorem asked_le (m : Nat) (rs : List Rw) : (asked m rs).length ≤ m := by
  have := List.length_filter_le (fun j => askB rs j rs.length) (List.range m)
  rw [List.length_range] at this
  exact this
theorem baseS_len (m n : Nat) : (baseS m n).length = 6 := rfl
theorem timeS_len (m : Nat) (rs : List Rw) : (timeS m rs).length = m + rs.length + 3 + (asked m rs).length := by
  unfold timeS
  simp only [List.length_append, List.length_map, List.length_range, List.length_singleton]
theorem rowS_len (rs : List Rw) (k : Nat) : (rowS rs k).length ≤ 2 := by
  unfold rowS
  split
  all_goals first | exact Nat.zero_le _ | (show 1 ≤ 2; decide) | (split <;> first | (show 1 ≤ 2; decide) | exact Nat.le_refl _)
theorem rowsS_succ (rs : List Rw) (n : Nat) : rowsS rs (n + 1) = rowsS rs n ++ rowS rs n := by
  unfold rowsS
  rw [List.range_succ, List.map_append, List.flatten_append]
  simp
theorem rowsS_len (rs : List Rw) : ∀ n, (rowsS rs n).length ≤ 2 * n
  | 0 => Nat.le_refl _
  | n + 1 => by
    rw [rowsS_succ, List.length_append]
    have := rowsS_len rs n
    have := rowS_len rs n
    omega
theorem stpK_succ {rs : List Rw} {n : Nat} : stpK rs (n + 1) = stpK rs n ++ (if rs[n]? = some .st then [n] else []) := by
  unfold stpK
  rw [List.range_succ, List.filter_append]
  by_cases h : rs[n]? = some .st
  · rw [if_pos h, List.filter_cons_of_pos (by rw [decide_eq_true h]), List.filter_nil]
  · rw [if_neg h, List.filter_cons_of_neg (by rw [decide_eq_false h]; exact Bool.false_ne_true), List.filter_nil]
theorem stpK_len (rs : List Rw) (n : Nat) : (stpK rs n).length ≤ n := by
  have := List.length_filter_le (fun k => decide (rs[k]? = some Rw.st)) (List.range n)
  rw [List.length_range] at this
  exact this
theorem plc_len (rs : List Rw) (q : Rw) (n : Nat) : (plc rs q n).length ≤ n := by
  have := List.length_filter_le (fun k => decide (rs[k]? = some q)) (List.range n)
  rw [List.length_range] at this
  exact this
theorem lsT_len (ks : List Nat) : (lsT ks).length = ks.length := List.length_map _
/-! str of a text or a whole number; texts joined; the lines of a program -/
def gStr2 : List V → Hp → VK → Prop := fun xs H Q => (∃ a, xs = [.str a] ∧ Q (.str a) H) ∨ ∃ i : Int, xs = [.int i] ∧ i.natAbs.log2 < 1920 ∧ Q (.str (toString i)) H
theorem call_gStr2 {X : Cx} : CallR X (.type "str") gStr2 := by
  intro pins s σ H xs us Q I rx h
  rcases h with h | h
  · exact SkE.call_str_str pins s σ H xs us Q I rx h
  · exact call_str_int pins s σ H xs us Q I rx h
theorem w_str2S {H : Hp} {Q : VK} {a : Str} (k : Q (.str a) H) : gStr2 [.str a] H Q := .inl ⟨a, rfl, k⟩
theorem w_str2I {H : Hp} {Q : VK} {i : Int} (h : i.natAbs < 2 ^ 64) (k : Q (.str (toString i)) H) : gStr2 [.int i] H Q := .inr ⟨i, rfl, log_i64 h, k⟩
local macro_rules | `(tactic| tm_at "rs") => `(tactic| first | ((with_reducible refine' w_str2I ?h ?_); (case h => omega)) | fail "no")
local macro_rules | `(tactic| tm_at "rs") => `(tactic| first | with_reducible refine w_str2S ?_ | fail "no")
theorem sz_cat {a b : Str} {p : Nat} (h : a.length ≤ p) (k : b.length ≤ 25) : (a ++ b).length ≤ p + 25 := by
  rw [app_len]
  omega
theorem sz_lit {a : Str} (h : a.length ≤ 25) : a.length ≤ 25 := h
theorem sz_tr {a p : Nat} (h : a ≤ p) (k : p ≤ 100000) : a ≤ sizeLine := sz_of (Nat.le_trans h k)
local macro_rules | `(tactic| tm_at "rz1") => `(tactic| first | ((with_reducible refine' tos_le ?h); (case h => omega)) | (exact sz_lit (by decide)) | fail "no")
local macro_rules | `(tactic| tm_at "rz") => `(tactic| first | ((with_reducible refine' sz_cat ?h ?k); (case k => tm_at "rz1"); (case h => tm_at "rz")) | tm_at "rz1" | fail "no")
local macro_rules | `(tactic| tm_at "rsl") => `(tactic| first | with_reducible assumption | ((refine' sz_tr (sz_cat ?h ?k) ?z); (case k => tm_at "rz1"); (case h => tm_at "rz"); (case z => decide)) | fail "no")
theorem w_addS2 {K : PySem.W.Frag} {H : Hp} {Q : VK} {a b : Str} (z : (a ++ b).length ≤ sizeLine) (k : Q (.str (a ++ b)) H) : gAdd K (.str a) (.str b) H Q := w_addS (by rw [app_len] at z; exact z) k
local macro_rules | `(tactic| tm_at "rs") => `(tactic| first | ((with_reducible refine' w_addS2 ?h ?_); (case h => tm_at "rsl")) | fail "no")
/-! small numbers written and read -/
def dgOk (n : Nat) : Bool :=
  let z : Str := toString (n : Int)
  decide (1 ≤ z.length) && decide (z.length ≤ 2) && decide ((Txt.stripChars z (Str.ofString "0123456789")).length = 0) && decide (1 < z.length → z.cps.toList[0]? ≠ some 48) && decide (PySem.intText? z = some (n : Int)) && decide (32 ∉ z.cps.toList) && decide (10 ∉ z.cps.toList)
theorem dg_all : ∀ n : Fin 100, dgOk n = true := by decide +kernel
structure DgF (z : Str) (n : Nat) : Prop where
  l1 : 1 ≤ z.length
  l2 : z.length ≤ 2
  st : (Txt.stripChars z (Str.ofString "0123456789")).length = 0
  z0 : 1 < z.length → z.cps.toList[0]? ≠ some 48
  it : PySem.intText? z = some (n : Int)
  b0 : 32 ∉ z.cps.toList
  n0 : 10 ∉ z.cps.toList
theorem dg {n : Nat} (h : n < 100) : DgF (toString (n : Int)) n := by
  have e := dg_all ⟨n, h⟩
  unfold dgOk at e
  simp only [Bool.and_eq_true, decide_eq_true_eq] at e
  obtain ⟨⟨⟨⟨⟨⟨h1, h2⟩, h3⟩, h4⟩, h5⟩, h6⟩, h7⟩ := e
  exact ⟨h1, h2, h3, h4, h5, h6, h7⟩
def StpE (Q : VK) (x y : V) (H : Hp) : Prop := ∃ a b, x = .str a ∧ [y] = [.str b] ∧ a.length ≤ sizeLine ∧ Q (.str (Txt.stripChars a b)) H
theorem w_stp {to te : TE} {σ : L2.St} {H : Hp} {Q : VK} (k : to σ H fun x H1 => (∃ a, x = .str a) ∧ te σ H1 fun y H2 => StpE Q x y H2) : tM1 (fun x xs H Q => ∃ a b, x = .str a ∧ xs = [.str b] ∧ a.length ≤ sizeLine ∧ Q (.str (Txt.stripChars a b)) H) to te σ H Q := k
def SplE (Q : VK) (x y : V) (H : Hp) : Prop := ∃ a b, x = .str a ∧ [y] = [.str b] ∧ (b.length == 0) = false ∧ a.length + 2 ≤ sizeLine ∧ rNewStrs (Txt.split a b) H Q
theorem w_spl {to te : TE} {σ : L2.St} {H : Hp} {Q : VK} (k : to σ H fun x H1 => (∃ a, x = .str a) ∧ te σ H1 fun y H2 => SplE Q x y H2) : tM1 (fun x xs H Q => ∃ a b, x = .str a ∧ xs = [.str b] ∧ (b.length == 0) = false ∧ a.length + 2 ≤ sizeLine ∧ rNewStrs (Txt.split a b) H Q) to te σ H Q := k
local macro_rules | `(tactic| tm_at "rs") => `(tactic| first | with_reducible refine w_spl ?_ | fail "no")
local macro_rules | `(tactic| tm_at "rs") => `(tactic| first | with_reducible refine w_isS ?_ | fail "no")
local macro_rules | `(tactic| tm_at "rs") => `(tactic| first | with_reducible refine w_stp ?_ | fail "no")
/-! list(zip(xs, ys)) of two lists of one length, the first one of texts or numbers: a new list of new pairs -/
theorem zip_len0 : typeLookup (.type "zip") "__len__" = pure none := am_miss_of_fast (by decide +kernel)
theorem zip_hint0 : typeLookup (.type "zip") "__length_hint__" = pure none := am_miss_of_fast (by decide +kernel)
structure ZAt (h : Heap) (z TI TO i1 i2 l1 l2 S : Addr) (xs ys : Array Value) (i : Nat) : Prop where
  ti : IsPair h TI (.ref i1) (.ref i2)
  a1 : h.IsListIter i1 l1 i
  a2 : h.IsListIter i2 l2 i
  b1 : h.IsList l1 xs
  b2 : h.IsList l2 ys
  zz : (IsZip h z TI TO .none ∧ ∃ a b, IsPair h TO a b) ∨ ∃ T f oT, IsZipHeld h z TI TO T f ∧ h.get? T = some oT ∧ T ≠ z ∧ T ≠ i1 ∧ T ≠ i2 ∧ T ≠ S
/-- where the seven stand -/
structure ZLow (z TI TO i1 i2 l1 l2 S : Addr) : Prop where
  z : z < S
  TI : TI < S
  TO : TO < S
  i1 : i1 < S
  i2 : i2 < S
  l1 : l1 < S
  l2 : l2 < S
section
variable {z TI TO i1 i2 l1 l2 S : Addr} {xs ys : Array Value} {i : Nat}
theorem ZAt.keep {h h' : Heap} (st : ZAt h z TI TO i1 i2 l1 l2 S xs ys i) (L : ZLow z TI TO i1 i2 l1 l2 S) (hk : ∀ b o, b ≠ S → h.get? b = some o → h'.get? b = some o) : ZAt h' z TI TO i1 i2 l1 l2 S xs ys i where
  ti := hk _ _ (Nat.ne_of_lt L.TI) st.ti
  a1 := st.a1.at fun o e => hk _ o (Nat.ne_of_lt L.i1) e
  a2 := st.a2.at fun o e => hk _ o (Nat.ne_of_lt L.i2) e
  b1 := st.b1.at fun o e => hk _ o (Nat.ne_of_lt L.l1) e
  b2 := st.b2.at fun o e => hk _ o (Nat.ne_of_lt L.l2) e
  zz := by
    rcases st.zz with ⟨hz, a, b, hT⟩ | ⟨T, f, oT, hz, hT, r1, r2, r3, r4⟩
    · exact .inl ⟨hk _ _ (Nat.ne_of_lt L.z) hz, a, b, hk _ _ (Nat.ne_of_lt L.TO) hT⟩
    · exact .inr ⟨T, f, oT, hk _ _ (Nat.ne_of_lt L.z) hz, hk _ _ r4 hT, r1, r2, r3, r4⟩
variable {prog : Program} {w : World} {A : Around} {E : Value → Shared → Prop} {s : Shared}
theorem zat_item {x y : Value} {Q : Option Value → Shared → Prop} (D : ZipApart z TI TO i1 i2 l1 l2) (st : ZAt s.heap z TI TO i1 i2 l1 l2 S xs ys i) (hS : S < s.heap.objs.size) (ex : xs[i]? = some x) (ey : ys[i]? = some y)
    (hQ : ∀ h', ZAt h' z TI TO i1 i2 l1 l2 S xs ys (i + 1) → h'.get? s.heap.objs.size = some { cls := .type "tuple", data := .seq #[x, y] } → h'.objs.size = s.heap.objs.size + 1 →
      (∀ c o, c ≠ z → c ≠ TO → c ≠ i1 → c ≠ i2 → s.heap.get? c = some o → h'.get? c = some o) → Q (some (.ref s.heap.objs.size)) { s with heap := h' }) :
    wpAny (model prog w) A (pyNext (.ref z)) Q E s := by
  obtain ⟨ti, a1, a2, b1, b2, zz⟩ := st
  have lt : ∀ {c o}, s.heap.get? c = some o → s.heap.objs.size ≠ c := fun e => Nat.ne_of_gt (Heap.lt_size e)
  have n1 : s.heap.objs.size ≠ i1 := by
    obtain ⟨_, e, _⟩ := a1
    exact lt e
  have n2 : s.heap.objs.size ≠ i2 := by
    obtain ⟨_, e, _⟩ := a2
    exact lt e
  rcases zz with ⟨hz, a, b, hT⟩ | ⟨T, f, oT, hz, hT, r1, r2, r3, r4⟩
  · refine wpAny_pyNext_zip_item D hz ti hT a1 a2 b1 b2 ex ey fun h' e1 e2 e3 e4 e5 e6 hk => ?_
    refine hQ h' ⟨hk _ _ D.TIz D.TITO D.TIi1 D.TIi2 ti, e3, e4, ?_, ?_, ?_⟩ e5 e6 hk
    · exact b1.at fun o e => hk _ o D.l1z D.l1TO D.l1i1 D.l1i2 e
    · exact b2.at fun o e => hk _ o D.l2z D.l2TO D.l2i1 D.l2i2 e
    · exact .inr ⟨s.heap.objs.size, false, _, e1, e5, lt hz, n1, n2, Nat.ne_of_gt hS⟩
  · refine wpAny_pyNext_zip_item_held D hz hT ti a1 a2 b1 b2 ex ey fun h' e1 e3 e4 e5 e6 hk => ?_
    refine hQ h' ⟨hk _ _ D.TIz D.TIi1 D.TIi2 ti, e3, e4, ?_, ?_, ?_⟩ e5 e6 fun c o c1 _ c3 c4 e => hk c o c1 c3 c4 e
    · exact b1.at fun o e => hk _ o D.l1z D.l1i1 D.l1i2 e
    · exact b2.at fun o e => hk _ o D.l2z D.l2i1 D.l2i2 e
    · exact .inr ⟨T, true, oT, e1, hk _ _ r1 r2 r3 hT, r1, r2, r3, r4⟩
theorem zat_done {Q : Option Value → Shared → Prop} (hh : A.handled = none) (D : ZipApart z TI TO i1 i2 l1 l2) (st : ZAt s.heap z TI TO i1 i2 l1 l2 S xs ys i) (ex : xs[i]? = none)
    (hQ : ∀ h', (∀ c o, c ≠ z → c ≠ TO → c ≠ i1 → c ≠ i2 → s.heap.get? c = some o → h'.get? c = some o) → Q none { s with heap := h' }) : wpAny (model prog w) A (pyNext (.ref z)) Q E s := by
  obtain ⟨ti, a1, a2, b1, b2, zz⟩ := st
  rcases zz with ⟨hz, a, b, hT⟩ | ⟨T, f, oT, hz, hT, r1, r2, r3, r4⟩
  · exact wpAny_pyNext_zip_end hh D hz ti hT a1 a2 b1 b2 (.inl ex) fun h' hk => hQ h' hk
  · exact wpAny_pyNext_zip_end_held hh D hz hT ti a1 a2 b1 b2 (.inl ex) fun h' hk => hQ h' fun c o c1 _ c3 c4 e => hk c o c1 c3 c4 e
end
/-- what the addresses hold -/
structure ZG (xs ys : Array Value) (lo : Addr) (h : Heap) (as : List Addr) : Prop where
  rise : as.Pairwise (· < ·)
  above : ∀ a ∈ as, lo < a
  pairs : ∀ (j : Nat) (a : Addr), as[j]? = some a → ∃ x y, xs[j]? = some x ∧ ys[j]? = some y ∧ h.get? a = some { cls := .type "tuple", data := .seq #[x, y] }
theorem ZG.there {xs ys : Array Value} {lo : Addr} {h : Heap} {as : List Addr} (g : ZG xs ys lo h as) {a : Addr} (ha : a ∈ as) : a < h.objs.size := by
  obtain ⟨j, hj⟩ := List.mem_iff_getElem?.mp ha
  obtain ⟨_, _, _, _, e⟩ := g.pairs j a hj
  exact Heap.lt_size e
abbrev lsO (acc : Array Value) (c : Nat) : Obj := { cls := .type "list", dict := none, data := .seq acc c, slots := #[] }
section
variable {prog : Program} {w : World} {A : Around} {s : Shared} {R : Result → Shared → Prop} {z TI TO i1 i2 l1 l2 S : Addr} {xs ys : Array Value}
theorem zl_loop (hh : A.handled = none) (D : ZipApart z TI TO i1 i2 l1 l2) (L : ZLow z TI TO i1 i2 l1 l2 S) (exy : xs.size = ys.size) (hn : xs.size ≤ sizeLine) (res : Value) {h₁ : Heap}
    (hR : ∀ h' tk acc c as, (∀ b o, b ≠ S → b ≠ z → b ≠ TO → b ≠ i1 → b ≠ i2 → h₁.get? b = some o → h'.get? b = some o) → h'.get? S = some (lsO acc c) → as.length = xs.size → ZG xs ys S h' as →
      acc.toList = as.map Value.ref → R (.ok (.ret res)) { s with heap := h', toks := tk }) :
    ∀ (k i : Nat) (h : Heap) (tk c : Nat) (acc : Array Value) (as : List Addr), xs.size - i = k → i ≤ xs.size → ZAt h z TI TO i1 i2 l1 l2 S xs ys i → (∀ b o, b ≠ S → b ≠ z → b ≠ TO → b ≠ i1 → b ≠ i2 → h₁.get? b = some o → h.get? b = some o) →
      h.get? S = some (lsO acc c) → acc.toList = as.map Value.ref → as.length = i → ZG xs ys S h as →
      codeAny (model prog w) A (.builtin "list.extend.loop" ⟨[.ref S, .ref z, res], []⟩) R { s with heap := h, toks := tk } := by
  intro k
  induction k with
  | zero =>
    intro i h tk c acc as hk hi hst hkeep hS hacc hal hG
    have hin : i = xs.size := by omega
    refine codeAny_builtin PySem.F.entry_extend_loop ?_
    rw [Around.under_plainId PySem.F.plain_extend_loop _]
    show wpAny _ A.in1 (pyNext (.ref z) >>= _) _ _ _
    refine wpAny_bind (zat_done (s := { s with heap := h, toks := tk }) (A := A.in1) hh D hst (by rw [hin]; exact Array.getElem?_eq_none (Nat.le_refl _)) fun h' he => ?_)
    have off : ∀ b, S < b → ∀ o, h.get? b = some o → h'.get? b = some o := fun b hb o e => he b o (Nat.ne_of_gt (Nat.lt_trans L.z hb)) (Nat.ne_of_gt (Nat.lt_trans L.TO hb)) (Nat.ne_of_gt (Nat.lt_trans L.i1 hb)) (Nat.ne_of_gt (Nat.lt_trans L.i2 hb)) e
    refine wpAny_pure (hR h' tk acc c as (fun b o n1 n2 n3 n4 n5 e => he b o n2 n3 n4 n5 (hkeep b o n1 n2 n3 n4 n5 e)) (he S _ (Nat.ne_of_gt L.z) (Nat.ne_of_gt L.TO) (Nat.ne_of_gt L.i1) (Nat.ne_of_gt L.i2) hS) (by omega) ⟨hG.rise, hG.above, fun j a hj => ?_⟩ hacc)
    obtain ⟨x, y, e1, e2, e3⟩ := hG.pairs j a hj
    exact ⟨x, y, e1, e2, off a (hG.above a (List.mem_of_getElem? hj)) _ e3⟩
  | succ k ih =>
    intro i h tk c acc as hk hi hst hkeep hS hacc hal hG
    have hlt : i < xs.size := by omega
    have hlt2 : i < ys.size := by omega
    have hsz : acc.size = i := by rw [← Array.length_toList, hacc, List.length_map, hal]
    have hSl : S < h.objs.size := Heap.lt_size hS
    refine codeAny_builtin PySem.F.entry_extend_loop ?_
    rw [Around.under_plainId PySem.F.plain_extend_loop _]
    show wpAny _ A.in1 (pyNext (.ref z) >>= _) _ _ _
    refine wpAny_bind (zat_item (s := { s with heap := h, toks := tk }) D hst hSl (Array.getElem?_eq_getElem hlt) (Array.getElem?_eq_getElem hlt2) fun h' hst' ht hz hkp => ?_)
    dsimp only at ht hz hkp ⊢
    have off : ∀ b, S < b → ∀ o, h.get? b = some o → h'.get? b = some o := fun b hb o e => hkp b o (Nat.ne_of_gt (Nat.lt_trans L.z hb)) (Nat.ne_of_gt (Nat.lt_trans L.TO hb)) (Nat.ne_of_gt (Nat.lt_trans L.i1 hb)) (Nat.ne_of_gt (Nat.lt_trans L.i2 hb)) e
    have hS' := hkp S _ (Nat.ne_of_gt L.z) (Nat.ne_of_gt L.TO) (Nat.ne_of_gt L.i1) (Nat.ne_of_gt L.i2) hS
    have up : ∀ b o, b ≠ S → h'.get? b = some o → (h'.update S (Obj.mapSeq (·.push (Value.ref h.objs.size)))).get? b = some o := fun b o hb e => (Heap.get?_update_other _ _ (Ne.symm hb)).trans e
    show wpAny _ A.in1 (updateSeq S (·.push (Value.ref h.objs.size)) >>= _) _ _ _
    apply wpAny_bind
    refine wpAny_updateSeq hS' rfl (wpAny_pure ⟨plainId_quiet PySem.F.plain_extend_loop _, ih (i + 1) _ tk _ (acc.push (Value.ref h.objs.size)) (as ++ [h.objs.size]) (by omega) hlt (hst'.keep L up)
      (fun b o n1 n2 n3 n4 n5 e => up b o n1 (hkp b o n2 n3 n4 n5 (hkeep b o n1 n2 n3 n4 n5 e))) (Heap.get?_update_self _ hS' rfl) (by rw [Array.toList_push, hacc, List.map_append]; rfl) (by rw [List.length_append, hal]; rfl) ⟨?_, ?_, ?_⟩⟩)
      (by rw [hsz]; omega) (by show (acc.push (Value.ref h.objs.size)).size ≤ sizeLine + 1; rw [Array.size_push, hsz]; omega)
    · refine List.pairwise_append.mpr ⟨hG.rise, List.pairwise_singleton _ _, fun a ha b hb => ?_⟩
      rw [List.mem_singleton.mp hb]
      exact hG.there ha
    · intro a ha
      rcases List.mem_append.mp ha with ha | ha
      · exact hG.above a ha
      · rw [List.mem_singleton.mp ha]
        exact hSl
    · intro j b hj
      rcases Nat.lt_trichotomy j as.length with c1 | c1 | c1
      · rw [List.getElem?_append_left c1] at hj
        obtain ⟨x, y, e1, e2, e3⟩ := hG.pairs j b hj
        have hb := hG.above b (List.mem_of_getElem? hj)
        exact ⟨x, y, e1, e2, up b _ (Nat.ne_of_gt hb) (off b hb _ e3)⟩
      · have hb : h.objs.size = b := by
          rw [c1] at hj
          simpa using hj
        rw [← hb, c1, hal]
        exact ⟨_, _, Array.getElem?_eq_getElem hlt, Array.getElem?_eq_getElem hlt2, up _ _ (Nat.ne_of_gt hSl) ht⟩
      · rw [List.getElem?_eq_none (by rw [List.length_append, List.length_singleton]; omega)] at hj
        cases hj
end
section
variable {prog : Program} {w : World} {A : Around} {E : Value → Shared → Prop} {s : Shared} {z TI TO i1 i2 l1 l2 : Addr} {xs ys : Array Value}
theorem zl_hint {r : Addr} {Q : Bool → Shared → Prop} (hT : s.TypeIs (.ref r) "zip") (h : Q true s) : wpAny (model prog w) A (Builtin.List.listLengthHint (.ref r)) Q E s := by
  unfold Builtin.List.listLengthHint
  refine wpAny_bind (wpAny_specialOf hT zip_len0 ?_)
  show wpAny _ _ (specialOf (Value.ref r) (Str.ofString "__length_hint__") >>= _) _ _ _
  refine wpAny_bind (wpAny_specialOf hT zip_hint0 ?_)
  exact wpAny_pure h
theorem ZAt.type {S : Addr} {i : Nat} (st : ZAt s.heap z TI TO i1 i2 l1 l2 S xs ys i) : s.TypeIs (.ref z) "zip" := by
  rcases st.zz with ⟨hz, _⟩ | ⟨T, f, oT, hz, _⟩
  · exact ⟨_, hz, rfl⟩
  · exact ⟨_, hz, rfl⟩
theorem zl_iter {S : Addr} {i : Nat} {Q : Value → Shared → Prop} (st : ZAt s.heap z TI TO i1 i2 l1 l2 S xs ys i) (z0 : IsZip s.heap z TI TO .none) (h : Q (.ref z) s) : wpAny (model prog w) A (pyIter (.ref z)) Q E s := wpAny_pyIter_zip z0 h
theorem zl_extend {R : Result → Shared → Prop} {S : Addr} (hh : A.handled = none) (D : ZipApart z TI TO i1 i2 l1 l2) (L : ZLow z TI TO i1 i2 l1 l2 S) (exy : xs.size = ys.size) (hn : xs.size ≤ sizeLine) (st : ZAt s.heap z TI TO i1 i2 l1 l2 S xs ys 0) (z0 : IsZip s.heap z TI TO .none) (res : Value) (c₀ : Nat) (hS : s.heap.get? S = some (lsO #[] c₀))
    (hR : ∀ h' tk acc c as, (∀ b o, b ≠ S → b ≠ z → b ≠ TO → b ≠ i1 → b ≠ i2 → s.heap.get? b = some o → h'.get? b = some o) → h'.get? S = some (lsO acc c) → as.length = xs.size → ZG xs ys S h' as →
      acc.toList = as.map Value.ref → R (.ok (.ret res)) { s with heap := h', toks := tk }) :
    wpAny (model prog w) A.in1 (Builtin.List.listExtendWith (.ref S) (.ref z) res)
      (fun fin s' => match fin with
        | .done f => R (.ok f) s'
        | .again c' => c'.quiet = true ∧ codeAny (model prog w) A c' R s') (fun e s' => R (.error e) s') s := by
  have hSz : S ≠ z := Nat.ne_of_gt L.z
  unfold Builtin.List.listExtendWith
  refine wpAny_bind (wpAny_typeOf (T := "zip") st.type ?_)
  have q1 : Builtin.List.listSameRef (.ref S) (.ref z) = false := by simp [Builtin.List.listSameRef, hSz]
  have q2 : (Value.type "zip" == Value.type "list") = false := by decide
  have q3 : (Value.type "zip" == Value.type "tuple") = false := by decide
  simp only [q1, q2, q3, Bool.or_false, Bool.false_eq_true, if_false]
  refine wpAny_bind (zl_iter st z0 ?_)
  refine wpAny_bind (wpAny_holding (zl_hint st.type ?_))
  refine wpAny_ite_split (fun _ => ?_) (fun q => absurd rfl q)
  refine wpAny_bind (wpAny_rule ?_)
  apply wpAny_bind
  show wpAny _ _ (updateSeq S (·.push .none) >>= fun _ => updateSeq S (·.pop)) _ _ _
  refine wpAny_bind (wpAny_updateSeq hS rfl ?_)
  have g2 := Heap.get?_update_self (Obj.mapSeq (·.push Value.none)) hS rfl
  refine wpAny_updateSeq (hz := by seq_fits) g2 rfl ?_
  have g3 := Heap.get?_update_self (Obj.mapSeq (·.pop)) g2 rfl
  have oth : ∀ b o, b ≠ S → s.heap.get? b = some o → ((s.heap.update S (Obj.mapSeq (·.push Value.none))).update S (Obj.mapSeq (·.pop))).get? b = some o :=
    fun b o hb e => (Heap.get?_update_other _ _ (Ne.symm hb)).trans ((Heap.get?_update_other _ _ (Ne.symm hb)).trans e)
  refine wpAny_pure ⟨plainId_quiet PySem.F.plain_extend_loop _, ?_⟩
  refine zl_loop (s := s) (h₁ := s.heap) hh D L exy hn res hR xs.size 0 _ _ _ #[] [] (Nat.sub_zero _) (Nat.zero_le _) (st.keep L oth) (fun b o n1 _ _ _ _ e => oth b o n1 e) g3 rfl rfl ⟨List.Pairwise.nil, (fun _ ha => nomatch ha), (fun j a hj => by simp at hj)⟩
theorem zl_init {R : Result → Shared → Prop} {S : Addr} (hh : A.handled = none) (D : ZipApart z TI TO i1 i2 l1 l2) (L : ZLow z TI TO i1 i2 l1 l2 S) (exy : xs.size = ys.size) (hn : xs.size ≤ sizeLine) (st : ZAt s.heap z TI TO i1 i2 l1 l2 S xs ys 0) (z0 : IsZip s.heap z TI TO .none) (hS : s.heap.get? S = some (lsO #[] 0))
    (hR : ∀ h' tk acc c as, (∀ b o, b ≠ S → b ≠ z → b ≠ TO → b ≠ i1 → b ≠ i2 → s.heap.get? b = some o → h'.get? b = some o) → h'.get? S = some (lsO acc c) → as.length = xs.size → ZG xs ys S h' as →
      acc.toList = as.map Value.ref → R (.ok (.ret .none)) { s with heap := h', toks := tk }) :
    wpAny (model prog w) A.in1 (Builtin.«list.__init__» ⟨[.ref S, .ref z], []⟩)
      (fun fin s' => match fin with
        | .done f => R (.ok f) s'
        | .again c' => c'.quiet = true ∧ codeAny (model prog w) A c' R s') (fun e s' => R (.error e) s') s := by
  show wpAny _ _ (do
    let old ← Builtin.List.listItems (.ref S)
    Builtin.List.listUpdate (.ref S) (fun _ => #[])
    letGo old.toList.reverse
    Builtin.List.listExtendWith (.ref S) (.ref z) .none) _ _ s
  apply wpAny_bind
  unfold Builtin.List.listItems
  refine wpAny_bind (wpAny_seqItems hS rfl (wpAny_pure ?_))
  show wpAny _ _ (updateSeq S (fun _ => #[]) >>= fun _ => letGo (#[] : Array Value).toList.reverse >>= fun _ => Builtin.List.listExtendWith (.ref S) (.ref z) .none) _ _ s
  refine wpAny_bind (wpAny_updateSeq hS rfl ?_)
  have g2 := Heap.get?_update_self (Obj.mapSeq (fun _ => (#[] : Array Value))) hS rfl
  have oth : ∀ b o, b ≠ S → s.heap.get? b = some o → (s.heap.update S (Obj.mapSeq (fun _ => (#[] : Array Value)))).get? b = some o := by
    intro b o hb e
    exact (Heap.get?_update_other _ _ (Ne.symm hb)).trans e
  refine wpAny_bind (wpAny_letGo ?_)
  refine zl_extend hh D L exy hn (st.keep L oth) (oth _ _ (Nat.ne_of_lt L.z) z0) .none _ g2 fun h' tk acc c as hk hS' hl hG hacc => ?_
  exact hR h' tk acc c as (fun b o n1 n2 n3 n4 n5 e => hk b o n1 n2 n3 n4 n5 (oth b o n1 e)) hS' hl hG hacc
theorem zl_call {Q : Value → Shared → Prop} (hh : A.handled = none) (D : ZipApart z TI TO i1 i2 l1 l2) (L : ZLow z TI TO i1 i2 l1 l2 s.heap.objs.size) (exy : xs.size = ys.size) (hn : xs.size ≤ sizeLine) (st : ∀ h', (∀ b o, s.heap.get? b = some o → h'.get? b = some o) → ZAt h' z TI TO i1 i2 l1 l2 s.heap.objs.size xs ys 0) (z0 : IsZip s.heap z TI TO .none)
    (hQ : ∀ h' tk acc c as, (∀ b o, b ≠ z → b ≠ TO → b ≠ i1 → b ≠ i2 → s.heap.get? b = some o → h'.get? b = some o) → h'.get? s.heap.objs.size = some (lsO acc c) → as.length = xs.size → ZG xs ys s.heap.objs.size h' as →
      acc.toList = as.map Value.ref → Q (.ref s.heap.objs.size) { s with heap := h', toks := tk }) :
    wpAny (model prog w) A (call (.type "list") [.ref z]) Q E s := by
  refine callType_codes (Q₁ := fun obj s₁ => obj = .ref s.heap.objs.size ∧ s₁ = { s with heap := s.heap.push (lsO #[] 0) }) PySem.F.called_list (PySem.F.typeCall_list_1 _) PySem.F.entry_list_init
    (code_list_new _ ⟨rfl, rfl⟩) fun obj s₁ h₁ => ?_
  obtain ⟨rfl, rfl⟩ := h₁
  have hS : (s.heap.push (lsO #[] 0)).get? s.heap.objs.size = some (lsO #[] 0) := Heap.get?_push_size _ rfl
  have kp : ∀ b o, s.heap.get? b = some o → (s.heap.push (lsO #[] 0)).get? b = some o := fun b o e => Heap.get?_push_of_some _ e
  refine ⟨⟨_, hS, rfl⟩, PySem.F.args_list_init_2 _ _, zl_init (A := A.in1) hh D L exy hn (st _ kp) (kp _ _ z0) hS fun h' tk acc c as hk hS' hl hG hacc => ?_⟩
  exact ⟨rfl, hQ h' tk acc c as (fun b o n2 n3 n4 n5 e => hk b o (Nat.ne_of_lt (Heap.lt_size e)) n2 n3 n4 n5 (kp b o e)) hS' hl hG hacc⟩
end
section
variable {X : Cx} {pins : List (Addr × Obj)} {σ : L2.St} {H : Hp} {s : Shared}
theorem zl_laid {S : Addr} {h' : Heap} {tk : Nat} {kvs : List (Key × V)} {us ws : List Value} {acc : Array Value} {c : Nat} {as : List Addr} (I : Inv X pins σ H s) (hz : kvs.length ≤ sizeLine) (r1 : Vals (kvs.map fun q => kV q.1) us) (r2 : Vals (kvs.map fun q => q.2) ws) (hle : s.heap.objs.size ≤ S)
    (hk : ∀ b o, s.heap.get? b = some o → h'.get? b = some o) (hS : h'.get? S = some (lsO acc c)) (hl : as.length = us.toArray.size) (hG : ZG us.toArray ws.toArray S h' as) (hacc : acc.toList = as.map Value.ref) :
    ∃ H' : Hp, Sm H H' ∧ H S = none ∧ H' S = some (.lst (as.map V.ref)) ∧ Paired (fun (t : Addr) (q : Key × V) => H' t = some (.tup [kV q.1, q.2])) as kvs ∧ Inv X pins σ H' { s with heap := h', toks := tk } := by
  have lk : kvs.length = us.length := by
    have := r1.length
    rw [List.length_map] at this
    exact this
  have hl2 : as.length = kvs.length := by rw [hl, List.size_toArray, lk]
  have nS : S ∉ as := fun q => Nat.lt_irrefl _ (hG.above _ q)
  have nd : as.Nodup := List.Pairwise.imp (fun {a b} (h : a < b) => Nat.ne_of_lt h) hG.rise
  have fr : ∀ t ∈ as, H t = none := fun t ht => I.hok.fresh (Nat.le_trans hle (Nat.le_of_lt (hG.above t ht)))
  have frS : H S = none := I.hok.fresh hle
  have at2 := LiI.putT_at as kvs (upd H S (.lst (as.map V.ref))) hl2 nd
  have off : ∀ b, b ∉ as → b ≠ S → LiI.putT (upd H S (.lst (as.map V.ref))) as kvs b = H b := fun b c1 c2 => by rw [LiI.putT_off as kvs _ c1, upd_ne c2]
  have low : ∀ b o, s.heap.get? b = some o → b ∉ as ∧ b ≠ S := fun b o e =>
    ⟨fun q => absurd (Heap.lt_size e) (Nat.not_lt.mpr (Nat.le_trans hle (Nat.le_of_lt (hG.above b q)))), Nat.ne_of_lt (Nat.lt_of_lt_of_le (Heap.lt_size e) hle)⟩
  have kp : ∀ b u, H b = some u → (LiI.putT (upd H S (.lst (as.map V.ref))) as kvs) b = some u := fun b u e => by
    rw [off b (fun q => by rw [fr b q] at e; cases e) (fun q => by rw [q, frS] at e; cases e)]
    exact e
  have eS : LiI.putT (upd H S (.lst (as.map V.ref))) as kvs S = some (.lst (as.map V.ref)) := by rw [LiI.putT_off as kvs _ nS, upd_same]
  refine ⟨LiI.putT (upd H S (.lst (as.map V.ref))) as kvs, kp, frS, eS, at2, ?_⟩
  refine I.call' (ch := []) rfl ⟨fun b o q _ _ _ => hk b o q, fun b o q _ _ _ => ⟨o.slots, hk b o q⟩, fun b o q n _ => ?_, fun b o q _ => ⟨o, hk b o q⟩, fun b xs q => kp b _ q, fun b o u q => kp b _ q, fun b ps q => ⟨#[], by rw [kp b _ q]; simp⟩⟩ (fun b u q => ?_) I.bare fun b q => by simp at q
  · obtain ⟨c1, c2⟩ := low b o q
    rw [off b c1 c2]
    exact n
  · by_cases hb : b ∈ as
    · obtain ⟨j, pk, e1, e2, e3⟩ := LiI.paired_ix at2 hb
      rw [e3] at q
      cases q
      obtain ⟨x, y, f1, f2, f3⟩ := hG.pairs j b e1
      have m1 : (kvs.map fun q => kV q.1)[j]? = some (kV pk.1) := by rw [List.getElem?_map, e2]; rfl
      have m2 : (kvs.map fun q => q.2)[j]? = some pk.2 := by rw [List.getElem?_map, e2]; rfl
      obtain ⟨x2, g1, rx⟩ := r1.get m1
      obtain ⟨y2, g2, ry⟩ := r2.get m2
      have f1 : us[j]? = some x := by simpa using f1
      have f2 : ws[j]? = some y := by simpa using f2
      obtain rfl : x2 = x := Option.some.inj (g1.symm.trans f1)
      obtain rfl : y2 = y := Option.some.inj (g2.symm.trans f2)
      exact ⟨by show 2 ≤ sizeLine; decide, [x2, y2], .cons rx (.cons ry .nil), ⟨_, f3, rfl, _, rfl⟩⟩
    · by_cases hb2 : b = S
      · rw [hb2] at q ⊢
        rw [eS] at q
        cases q
        refine ⟨by rw [List.length_map]; omega, acc.toList, c, by rw [hacc]; exact LiI.vals_refs as, ?_⟩
        rw [Array.toArray_toList]
        exact hS
      · rw [off b hb hb2] at q
        exact (I.hok b u q).stay (fun d v _ y => hk d v y) (fun d y => kp d _ y) fun d xs y => kp d _ y
end
def LzE (K : PySem.W.Frag) (Q : VK) (vs : List V) (H1 : Hp) : Prop := ∃ (a b : Addr) (kvs : List (Key × V)), vs = [.ref a, .ref b] ∧ SqL K H1 a (kvs.map fun q => kV q.1) ∧ SqL K H1 b (kvs.map fun q => q.2) ∧
  ∀ (p : Addr) (ts : List Addr) (H' : Hp), H1 p = none → Sm H1 H' → H' p = some (.lst (ts.map V.ref)) → Paired (fun (t : Addr) (q : Key × V) => H' t = some (.tup [kV q.1, q.2])) ts kvs → Q (.ref p) H'
def tLz (K : PySem.W.Frag) (ta : TA) : TE := fun σ H Q => ta σ H fun vs H1 => LzE K Q vs H1
theorem pe_listZip {X : Cx} {K : PySem.W.Frag} (hK : X.K = K) {e e2 : Expr} {ta : TA} {p pz pos posz : Pos} (hc : X.calm = true) (hg : Gl X "list") (hm : X.mg "list" = none) (hgz : Gl X "zip") (hmz : X.mg "zip" = none) (ha : PA X [e, e2] ta)
    (hv : bootBuiltins "list" = some (.type "list") := by exact PyProof.Rows.boot_list)
    (hs : starEach [.Call (.Name "zip" pz) [e, e2] [] posz] X.env = (false, eval (.Call (.Name "zip" pz) [e, e2] [] posz) X.env) :: starEach [] X.env := by rfl)
    (hs2 : starEach [e, e2] X.env = (false, eval e X.env) :: starEach [e2] X.env := by rfl) (hpl : (backTo posz (starEach [e2] X.env)).any (·.1) = false := by rfl) :
    PE X (.Call (.Name "list" p) [.Call (.Name "zip" pz) [e, e2] [] posz] [] pos) (tLz K ta) := by
  subst hK
  constructor
  intro pins s σ H Q I hq
  refine wpAny_Call_Name_kw (ld_blt I hg hm hv ?_)
  refine PyProof.Rows.callWith_type1 ?_ hs rfl
  rw [hs]
  show wpAny _ _ (spliced ((false, eval (.Call (.Name "zip" pz) [e, e2] [] posz) X.env) :: backTo pos (starEach [] X.env))) _ _ s
  apply Calls.spliced_cons
  refine wpAny_Call_Name_kw (ld_blt I hgz hmz PyProof.Rows.boot_zip (PyProof.Rows.callWith_type1 (thn (ha.run posz pins s σ H _ I hq) fun vv s1 hv1 => ?_) hs2 hpl))
  obtain ⟨vs, H1, I1, r0, a, b, kvs, rfl, h1, h2, q⟩ := hv1
  obtain ⟨va, vb, rfl, ra, rb⟩ := vals2 r0
  obtain rfl : va = Value.ref a := ra
  obtain rfl : vb = Value.ref b := rb
  obtain ⟨us, r1, p1, z1⟩ := I1.list h1
  obtain ⟨ws, r2, p2, z2⟩ := I1.list h2
  have la : a < s1.heap.objs.size := p1.lt
  have lb : b < s1.heap.objs.size := p2.lt
  have hz : kvs.length ≤ sizeLine := by
    rw [List.length_map] at z1
    exact z1
  have l1 : us.length = kvs.length := by
    have := r1.length
    rw [List.length_map] at this
    exact this.symm
  have l2 : ws.length = kvs.length := by
    have := r2.length
    rw [List.length_map] at this
    exact this.symm
  refine call_zip_2 p1.isList p2.isList fun h' hzz hTI hTO g1 g2 hsz hk => ?_
  apply Calls.spliced_nil
  have hs5 : ({ s1 with heap := h' } : Shared).heap.objs.size = s1.heap.objs.size + 5 := hsz
  have LW : ZLow (s1.heap.objs.size + 4) (s1.heap.objs.size + 2) (s1.heap.objs.size + 3) s1.heap.objs.size (s1.heap.objs.size + 1) a b h'.objs.size := by
    constructor <;> (show _ < h'.objs.size; rw [hsz]; first | exact Nat.add_lt_add_left (by decide) _ | exact Nat.lt_add_of_pos_right (by decide) | exact Nat.lt_of_lt_of_le la (Nat.le_add_right _ _) | exact Nat.lt_of_lt_of_le lb (Nat.le_add_right _ _))
  refine zl_call (s := { s1 with heap := h' }) (xs := us.toArray) (ys := ws.toArray) (I.ok.hd hc) (PySem.W.ktu_apart s1.heap.objs.size a b la lb) LW (by rw [List.size_toArray, List.size_toArray, l1, l2]) (by rw [List.size_toArray, l1]; exact hz) (fun h2' k2 => ?_) hzz fun h'' tk acc c as hk2 hS hl hG hacc => ?_
  · exact ⟨k2 _ _ hTI, g1.at fun o e => k2 _ o e, g2.at fun o e => k2 _ o e, (p1.isList.at fun o e => k2 _ o (hk _ o e)), (p2.isList.at fun o e => k2 _ o (hk _ o e)), .inl ⟨k2 _ _ hzz, _, _, k2 _ _ hTO⟩⟩
  · have kk : ∀ b o, s1.heap.get? b = some o → h''.get? b = some o := fun b o e => by
      have hb := Heap.lt_size e
      refine hk2 b o ?_ ?_ ?_ ?_ (hk b o e)
      · exact Nat.ne_of_lt (Nat.lt_of_lt_of_le hb (Nat.le_add_right _ _))
      · exact Nat.ne_of_lt (Nat.lt_of_lt_of_le hb (Nat.le_add_right _ _))
      · exact Nat.ne_of_lt hb
      · exact Nat.ne_of_lt (Nat.lt_of_lt_of_le hb (Nat.le_add_right _ _))
    obtain ⟨H', k1, k2, k3, k4, J⟩ := zl_laid (S := h'.objs.size) (tk := tk) I1 hz r1 r2 (by rw [hsz]; exact Nat.le_add_right _ _) kk hS hl hG hacc
    exact ⟨.ref _, H', J, rfl, q _ as H' k2 k1 k3 k4⟩
theorem w_lz {K : PySem.W.Frag} {ta : TA} {σ : L2.St} {H : Hp} {Q : VK} (k : ta σ H fun vs H1 => LzE K Q vs H1) : tLz K ta σ H Q := k
theorem w_lzE {K : PySem.W.Frag} {H : Hp} {Q : VK} {a b : Addr} {kvs : List (Key × V)} (h1 : SqL K H a (kvs.map fun q => kV q.1)) (h2 : SqL K H b (kvs.map fun q => q.2))
    (k : ∀ (p : Addr) (ts : List Addr) (H' : Hp), H p = none → Sm H H' → H' p = some (.lst (ts.map V.ref)) → Paired (fun (t : Addr) (q : Key × V) => H' t = some (.tup [kV q.1, q.2])) ts kvs → Q (.ref p) H') : LzE K Q [.ref a, .ref b] H :=
  ⟨a, b, kvs, rfl, h1, h2, k⟩
local macro_rules | `(tactic| tm_at "rs") => `(tactic| first | with_reducible refine w_lz ?_ | fail "no")
/-! d.update(e): two dicts -/
def rDUpd : V → List V → Hp → VK → Prop := fun x vs H Q => ∃ (a b : Addr) (kvs more : List (Key × V)), x = .ref a ∧ vs = [.ref b] ∧ H a = some (.dK kvs) ∧ H b = some (.dK more) ∧ a ≠ b ∧ kvs.length + more.length ≤ 10000 ∧ Q .non (upd H a (.dK (mergeK kvs more)))
theorem mtd_update {X : Cx} : MtR X "dict.update" rDUpd := by
  intro pins s σ H x vs v us Q I rx rv h
  obtain ⟨a, b, kvs, more, rfl, rfl, e1, e2, ne, hz, q⟩ := h
  obtain rfl : v = Value.ref a := rx
  obtain ⟨u, rfl, ru⟩ := vals1 rv
  obtain rfl : u = Value.ref b := ru
  obtain ⟨z1, s1, ps, k1, d1⟩ := dk_of I.hok e1
  obtain ⟨z2, s2, qs, k2, d2⟩ := dk_of I.hok e2
  have hsl := sizeLine_eq
  refine call_meetsIn PySem.F.slot_dict_update d1.typeIs PySem.F.entry_dict_update (PySem.F.args_dict_update_2 _ _) (meets_dict_update (mixKind X.prog X.w) a b ne s2) ⟨ps, qs, d1, d2, ?_, fun h' dd _ hs => ?_⟩
  · rw [← k1.length, ← k2.length]
    omega
  · have he : ∃ o, h'.get? a = some o := by
      obtain ⟨o, _, _, ho, _⟩ := dd
      exact ⟨o, ho⟩
    have zz : (mergeK kvs more).length ≤ sizeLine := by
      have := length_mergeK more kvs
      omega
    exact ⟨.non, _, d_write (t' := s.toks) I (by rw [e1]; trivial) hs he (dk_new zz s1 (KV.merge k2 k1) dd), rfl, q⟩
theorem w_bmD {K : PySem.W.Frag} {H : Hp} {d : Addr} {kvs : List (Key × V)} {R : Prop} (h : H d = some (.dK kvs)) (k : R) : BmE K "dict" (.ref d) H R := ⟨.inr (.inr (.inl ⟨rfl, .inl ⟨kvs, h⟩⟩)), k⟩
theorem w_dupd {H : Hp} {Q : VK} {a b : Addr} {kvs more : List (Key × V)} (h1 : H a = some (.dK kvs)) (h2 : H b = some (.dK more)) (ne : a ≠ b) (z : kvs.length + more.length ≤ 10000) (k : ∀ H', Kp a H H' → H' a = some (.dK (mergeK kvs more)) → Q .non H') : rDUpd (.ref a) [.ref b] H Q :=
  ⟨a, b, kvs, more, rfl, rfl, h1, h2, ne, z, k _ kp_upd upd_same⟩
local macro_rules | `(tactic| tm_at "rs") => `(tactic| first | ((with_reducible refine' w_bmD ?h ?k); (case h => tm_at "rlk")) | fail "no")
/-! the numbers of a run, as a dict -/
theorem nmS_inj {c : Str} {i j : Nat} (hi : i < 100) (hj : j < 100) (h : nmS c i = nmS c j) : i = j := by
  have e : (c ++ (toString ((i : Nat) : Int) : Str)).cps.toList = (c ++ (toString ((j : Nat) : Int) : Str)).cps.toList := congrArg (fun z : Str => z.cps.toList) h
  have ap : ∀ a b : Str, (a ++ b).cps.toList = a.cps.toList ++ b.cps.toList := fun a b => Array.toList_append
  rw [ap, ap] at e
  have e2 := str_ext (List.append_cancel_left e)
  have a1 := (dg hi).it
  have a2 := (dg hj).it
  rw [e2, a2] at a1
  have := Option.some.inj a1
  omega
theorem nmS_hd {c : Str} {j : Nat} {x : Nat} (h : c.cps.toList.head? = some x) : (nmS c j).cps.toList.head? = some x := by
  have ap : (nmS c j).cps.toList = c.cps.toList ++ (toString ((j : Nat) : Int) : Str).cps.toList := Array.toList_append
  rw [ap, List.head?_append, h]
  rfl
theorem nmS_ne {c d : Str} {x y : Nat} (hx : c.cps.toList.head? = some x) (hy : d.cps.toList.head? = some y) (n : x ≠ y) (i j : Nat) : nmS c i ≠ nmS d j := fun e => by
  have h1 := nmS_hd (j := i) hx
  rw [e, nmS_hd hy] at h1
  exact n (Option.some.inj h1).symm
def kvE (s : Str) (v : Int) : Key × V := (Sum.inr s, V.int v)
def cell (ss : List (Nat × List Nat)) (t j : Nat) : Nat := match ss[t]? with
  | some (_, cs) => cs.getD j 0
  | none => 0
def iS (c n : Nat) : Int := ((List.range n).map fun t => (2 : Int) ^ (c * t)).sum
def rS (c : Nat) (ss : List (Nat × List Nat)) (j : Nat) : Int := ((List.range ss.length).map fun t => (cell ss t j : Int) * 2 ^ (c * t)).sum
def atR (ss : List (Nat × List Nat)) (k t : Nat) : Bool := match ss[t]? with
  | some (r, _) => decide (r = k)
  | none => false
def lS (c : Nat) (ss : List (Nat × List Nat)) (k : Nat) : Int := (((List.range ss.length).filter (atR ss k)).map fun t => (2 : Int) ^ (c * t)).sum
def an8 (c n len sb : Nat) : List (Key × V) := [kvE "s" ((n : Int) - 1), kvE "c" (c : Nat), kvE "h" (2 ^ (c - 1)), kvE "d" (2 ^ (c - 1) - (sb : Nat) - 1), kvE "q" (2 ^ c), kvE "g" (2 ^ c - (len : Nat) - 1), kvE "i" (iS c n), kvE "m" ((2 ^ (c - 1) - 1) * iS c n)]
def anX (m : Nat) (bs : List Nat) : List (Key × V) := (List.range m).map fun j => kvE (nmS "x" j) (bs.getD j 0 : Nat)
def anY (m : Nat) (ys : List Nat) : List (Key × V) := (List.range m).map fun j => kvE (nmS "y" j) (ys.getD j 0 : Nat)
def anR (m c : Nat) (ss : List (Nat × List Nat)) : List (Key × V) := (List.range m).map fun j => kvE (nmS "r" j) (rS c ss j)
def anL (n c : Nat) (ss : List (Nat × List Nat)) : List (Key × V) := (List.range n).map fun k => kvE (nmS "l" k) (lS c ss k)
def anE (m c : Nat) (rs : List Rw) (ss : List (Nat × List Nat)) : List (Key × V) := (asked m rs).map fun j => kvE (nmS "e" j) (2 ^ c * iS c ss.length - 2 * rS c ss j)
/-- an answer -/
def ansD (m : Nat) (rs : List Rw) (bs ys : List Nat) (ss : List (Nat × List Nat)) (c : Nat) : List (Key × V) := anX m bs ++ anY m ys ++ an8 c ss.length rs.length bs.sum ++ anR m c ss ++ anL rs.length c ss ++ anE m c rs ss
theorem an8_self (c n len sb : Nat) : mergeK [] (an8 c n len sb) = an8 c n len sb := by
  unfold an8 mergeK kvE
  simp only [List.foldl_cons, List.foldl_nil]
  simp (decide := true) [putK]
theorem merge_app (a b c : List (Key × V)) : mergeK a (b ++ c) = mergeK (mergeK a b) c := List.foldl_append
theorem merge_snoc (a b : List (Key × V)) (s : Str) (v : Int) : mergeK a (b ++ [kvE s v]) = putK (mergeK a b) (.inr s) (.int v) := by rw [merge_app]; rfl
theorem merge_len : ∀ (b a : List (Key × V)), (mergeK a b).length ≤ a.length + b.length
  | [], _ => Nat.le_refl _
  | (k, v) :: b, a => by
    have h1 := merge_len b (putK a k v)
    have h2 : (putK a k v).length ≤ a.length + 1 := _root_.Rs.putK_len
    show (mergeK (putK a k v) b).length ≤ a.length + (b.length + 1)
    omega
theorem merge_off {k : Key} : ∀ (b a : List (Key × V)), (∀ q ∈ b, q.1 ≠ k) → valV (mergeK a b) k = valV a k
  | [], _, _ => rfl
  | (k', v) :: b, a, h => by
    show valV (mergeK (putK a k' v) b) k = _
    rw [merge_off b _ fun q hq => h q (List.mem_cons_of_mem _ hq), valV_put, if_neg fun e => h (k', v) List.mem_cons_self e.symm]
theorem nV_int (bs : List Nat) : nV bs = (bs.map fun x : Nat => (x : Int)).map V.int := by
  rw [List.map_map]
  rfl
theorem sum_cast : ∀ bs : List Nat, (bs.map fun x : Nat => (x : Int)).sum = ((bs.sum : Nat) : Int)
  | [] => rfl
  | b :: bs => by
    rw [List.map_cons, List.sum_cons, List.sum_cons, sum_cast bs]
    rfl
theorem iS_succ (c n : Nat) : iS c (n + 1) = iS c n + 2 ^ (c * n) := by
  unfold iS
  rw [List.range_succ, List.map_append, List.sum_append]
  simp
theorem iS_bd {c : Nat} (c1 : 1 ≤ c) : ∀ n, 0 ≤ iS c n ∧ iS c n < 2 ^ (c * n)
  | 0 => ⟨Int.le_refl _, by unfold iS; simp⟩
  | n + 1 => by
    have h := iS_bd c1 n
    rw [iS_succ]
    have e : (2 : Int) ^ (c * (n + 1)) = 2 ^ (c * n) * 2 ^ c := by rw [Nat.mul_succ, Int.pow_add]
    have h2 : (2 : Int) ≤ 2 ^ c := by
      obtain ⟨d, rfl⟩ : ∃ d, c = d + 1 := ⟨c - 1, by omega⟩
      have := Int.pow_pos (n := 2) (m := d) (by decide)
      rw [Int.pow_succ]
      omega
    have h0 : (0 : Int) < 2 ^ (c * n) := Int.pow_pos (by decide)
    have h3 : (2 : Int) ^ (c * n) * 2 ≤ 2 ^ (c * n) * 2 ^ c := Int.mul_le_mul_of_nonneg_left h2 (Int.le_of_lt h0)
    rw [e]
    omega
theorem pow2_nat (n : Nat) : (2 : Int) ^ n = ((2 ^ n : Nat) : Int) := by rw [Int.natCast_pow]; rfl
theorem iS_cm {c n : Nat} (c1 : 1 ≤ c) (h : c * n ≤ 1000000) {z : Int} (hz : z.natAbs < 2 ^ 1001) : CM z (iS c n) := by
  obtain ⟨h0, h1⟩ := iS_bd c1 n
  refine .inr (mulx_ok (a := 1001) (b := c * n) hz ?_ (by omega))
  rw [pow2_nat] at h1
  omega
theorem pow_less (c : Nat) : ((2 : Int) ^ (c - 1) - 1).natAbs < 2 ^ (c + 1) := by
  have h1 : 2 ^ (c - 1) ≤ 2 ^ (c + 1) := Nat.pow_le_pow_right (by decide) (by omega)
  have h0 : 0 < 2 ^ (c - 1) := Nat.pow_pos (by decide)
  rw [pow2_nat]
  omega
theorem shl_cell {x : Nat} {j : Int} (hx : x ≤ 2 ^ 100) (h0 : 0 ≤ j) (h : j ≤ 1000000) : CShl (x : Int) j := by
  refine ⟨h0, ?_⟩
  have : Builtin.Int.intBits (x : Int) ≤ 101 := PyProof.Rows.intBits_le (by rw [Int.natAbs_natCast]; exact Nat.lt_of_le_of_lt hx (Nat.pow_lt_pow_right (by decide) (by decide)))
  omega
theorem filt1 {α : Type} (p : α → Bool) (x : α) : [x].filter p = if p x = true then [x] else [] := by
  cases h : p x <;> simp [h]
theorem merge_r {a B : List (Key × V)} {c j : Nat} {ss : List (Nat × List Nat)} : ∀ m, j < m → m ≤ 100 → valV (mergeK a (B ++ anR m c ss)) (.inr (nmS "r" j)) = some (.int (rS c ss j))
  | 0, h, _ => absurd h (Nat.not_lt_zero _)
  | m + 1, h, h2 => by
    have e : anR (m + 1) c ss = anR m c ss ++ [kvE (nmS "r" m) (rS c ss m)] := by
      unfold anR
      rw [List.range_succ, List.map_append]
      rfl
    rw [e, ← List.append_assoc, merge_snoc, valV_put]
    by_cases hj : j = m
    · rw [if_pos (by rw [hj]), hj]
    · rw [if_neg (fun q => hj (nmS_inj (by omega) (by omega) (Sum.inr.inj q)))]
      exact merge_r m (by omega) (by omega)
theorem merge_rE {a B E : List (Key × V)} {m c j : Nat} {ss : List (Nat × List Nat)} (h : j < m) (h2 : m ≤ 100) (hE : ∀ q ∈ E, q.1 ≠ .inr (nmS "r" j)) : valV (mergeK a (B ++ anR m c ss ++ E)) (.inr (nmS "r" j)) = some (.int (rS c ss j)) := by
  rw [merge_app, merge_off _ _ hE]
  exact merge_r m h h2
theorem anL_ne {n c j : Nat} {ss : List (Nat × List Nat)} : ∀ q ∈ anL n c ss, q.1 ≠ .inr (nmS "r" j) := fun q hq e => by
  obtain ⟨k, _, rfl⟩ := List.mem_map.mp hq
  exact nmS_ne (x := 108) (y := 114) rfl rfl (by decide) k j (Sum.inr.inj e)
theorem anE_ne {l : List Nat} {f : Nat → Int} {j : Nat} : ∀ q ∈ l.map fun j => kvE (nmS "e" j) (f j), q.1 ≠ .inr (nmS "r" j) := fun q hq e => by
  obtain ⟨k, _, rfl⟩ := List.mem_map.mp hq
  exact nmS_ne (x := 101) (y := 114) rfl rfl (by decide) k j (Sum.inr.inj e)
/-! sum(list, start=0); lists of the same objects compared -/
/-! two lists of the same objects -/
theorem vals_refs : ∀ {xs : List V} {us vs : List Value}, (∀ v ∈ xs, ∃ p, v = V.ref p) → Vals xs us → Vals xs vs → us = vs
  | [], _, _, _, .nil, .nil => rfl
  | x :: xs, _, _, h, .cons r1 t1, .cons r2 t2 => by
    obtain ⟨p, rfl⟩ := h x List.mem_cons_self
    cases r1
    cases r2
    rw [vals_refs (fun v hv => h v (List.mem_cons_of_mem _ hv)) t1 t2]
theorem w_cKw {r : List V → List V → Hp → VK → Prop} {t tk : TA} {σ : L2.St} {H : Hp} {Q : VK} (k : t σ H fun vs H1 => tk σ H1 fun zs H2 => r vs zs H2 Q) : tCKw r t tk σ H Q := k
local macro_rules | `(tactic| tm_at "rs") => `(tactic| with_reducible refine w_cKw ?_)
/-! a, b = a list -/
theorem w_glst {K : PySem.W.Frag} {n : Nat} {t : TGs} {σ : L2.St} {H : Hp} {Q : L2.St → Hp → Prop} {a : Addr} {xs : List V} (h : SqL K H a xs) (l : xs.length = n) (k : t xs σ H Q) : L2.gLst K n t (.ref a) σ H Q := ⟨a, xs, rfl, h, l, k⟩
local macro_rules | `(tactic| tm_at "rs") => `(tactic| first | ((with_reducible refine' w_glst ?h ?l ?k); (case h => tm_at "rsq"); (case l => rfl)) | fail "no")
/-! dict(list of pairs) -/
def dictPE (K : PySem.W.Frag) (xs : List V) (H : Hp) (Q : VK) : Prop := ∃ (a : Addr) (ps : List Addr) (kvs : List (Key × V)), xs = [.ref a] ∧ SqL K H a (ps.map V.ref) ∧ Paired (fun p kv => SqT K H p [kV kv.1, kv.2]) ps kvs ∧ ∀ p, H p = none → Q (.ref p) (upd H p (.dK (mergeK [] kvs)))
theorem call_gDictP {X : Cx} {K : PySem.W.Frag} (hK : K = X.K) (hc : X.calm = true) : CallR X (.type "dict") (dictPE K) := by
  subst hK
  exact call_dictP hc
theorem w_dictP {K : PySem.W.Frag} {H : Hp} {Q : VK} {a : Addr} {ps : List Addr} {kvs : List (Key × V)} (h : SqL K H a (ps.map V.ref)) (hp : Paired (fun p kv => SqT K H p [kV kv.1, kv.2]) ps kvs) (k : ∀ p H', H p = none → Sm H H' → H' p = some (.dK (mergeK [] kvs)) → Q (.ref p) H') : dictPE K [.ref a] H Q :=
  ⟨a, ps, kvs, rfl, h, hp, fun p hn => k p _ hn (sm_new hn) upd_same⟩
theorem pw2_odd {F B N : Nat} (h : N % 2 = 1) : F * B * (B * B) ^ (N / 2) = F * B ^ N := by
  have e : (N / 2 + N / 2).succ = N := by omega
  rw [Nat.mul_pow, ← Nat.pow_add, Nat.mul_assoc, Nat.mul_comm B, ← Nat.pow_succ, e]
theorem pw2_even {F B N : Nat} (h : N % 2 = 0) : F * (B * B) ^ (N / 2) = F * B ^ N := by
  have e : N / 2 + N / 2 = N := by omega
  rw [Nat.mul_pow, ← Nat.pow_add, e]
/-! two sorted lists of the same texts are alike -/
/-! sorted(list of texts), sorted(dict with text keys) -/
/-! all the parts of a term, with how deep each stands -/
/-- no sign of a step is that of a number or a name -/
def Tm.opw : Tm → Prop
  | .op w a b => w ≠ Str.ofString "num" ∧ w ≠ Str.ofString "name" ∧ a.opw ∧ b.opw
  | _ => True
def allT : Tm → Nat → List (Tm × Nat)
  | .op w a b, d => (.op w a b, d) :: (allT a (d + 1) ++ allT b (d + 1))
  | .num n, d => [(.num n, d)]
  | .name s, d => [(.name s, d)]
def PtAt (K : PySem.W.Frag) (H : Hp) (q : V) (s : Tm × Nat) : Prop := ∃ p x, q = .ref p ∧ H p = some (.tup [x, .int ((s.2 : Nat) : Int)]) ∧ TmAt K H s.1 x
theorem PtAt.imp {K : PySem.W.Frag} {H H' : Hp} {q : V} {s : Tm × Nat} (h : Tk H H') (r : PtAt K H q s) : PtAt K H' q s := by
  obtain ⟨p, x, e, k, t⟩ := r
  exact ⟨p, x, e, h _ _ k, t.imp h⟩
theorem PtAt.sm {K : PySem.W.Frag} {H H' : Hp} {q : V} {s : Tm × Nat} (r : PtAt K H q s) (e : Sm H H') : PtAt K H' q s := r.imp (Tk.sm e)
/-! a program's names -/
def nm8 : List Str := ["s", "c", "h", "d", "q", "g", "i", "m"].map Str.ofString
def namesL (m n : Nat) (es : List Nat) : List Str := ((List.range m).map (nmS (Str.ofString "x")) ++ (List.range m).map (nmS (Str.ofString "y"))) ++ nm8 ++ (List.range m).map (nmS (Str.ofString "r")) ++ (List.range n).map (nmS (Str.ofString "l")) ++ es.map (nmS (Str.ofString "e"))
/-! the names that stand in a program's sayings are the program's names -/
def Tm.nms : Tm → List Str
  | .num _ => []
  | .name z => [z]
  | .op _ a b => a.nms ++ b.nms
/-- the names among parts, in order -/
def nmsP : List (Tm × Nat) → List Str
  | [] => []
  | (.name z, _) :: S => z :: nmsP S
  | _ :: S => nmsP S
theorem nmsP_app : ∀ (S T : List (Tm × Nat)), nmsP (S ++ T) = nmsP S ++ nmsP T
  | [], _ => rfl
  | (.name z, d) :: S, T => by
    show z :: nmsP (S ++ T) = z :: (nmsP S ++ nmsP T)
    rw [nmsP_app S T]
  | (.num n, d) :: S, T => nmsP_app S T
  | (.op w a b, d) :: S, T => nmsP_app S T
theorem nmsP_all : ∀ (t : Tm) (d : Nat), nmsP (allT t d) = t.nms
  | .num _, _ => rfl
  | .name _, _ => rfl
  | .op w a b, d => by
    show nmsP (allT a (d + 1) ++ allT b (d + 1)) = a.nms ++ b.nms
    rw [nmsP_app, nmsP_all a, nmsP_all b]
/-- the names that stand in a saying, in sayings -/
def nmSay (s : SyW) : List Str := nmsP (allT s.2.1 0 ++ allT s.2.2 0)
theorem nmSay_eq (s : SyW) : nmSay s = s.2.1.nms ++ s.2.2.nms := by
  unfold nmSay
  rw [nmsP_app, nmsP_all, nmsP_all]
def nmSys (ss : List SyW) : List Str := ss.flatMap nmSay
theorem mem_nmSys {ss : List SyW} {z : Str} : z ∈ nmSys ss ↔ ∃ s ∈ ss, z ∈ s.2.1.nms ∨ z ∈ s.2.2.nms := by
  unfold nmSys
  rw [List.mem_flatMap]
  constructor
  · rintro ⟨s, hs, h⟩
    rw [nmSay_eq, List.mem_append] at h
    exact ⟨s, hs, h⟩
  · rintro ⟨s, hs, h⟩
    exact ⟨s, hs, by rw [nmSay_eq, List.mem_append]; exact h⟩
theorem mem_foldT {z : Str} : ∀ (ts : List Tm) (a : Tm), z ∈ (ts.foldl (fun a b => Tm.op "plus" a b) a).nms ↔ z ∈ a.nms ∨ ∃ t ∈ ts, z ∈ t.nms
  | [], a => by simp
  | t :: ts, a => by
    rw [List.foldl_cons, mem_foldT ts]
    show z ∈ a.nms ++ t.nms ∨ _ ↔ _
    rw [List.mem_append]
    simp only [List.mem_cons]
    constructor
    · rintro ((h | h) | ⟨x, hx, h⟩)
      · exact .inl h
      · exact .inr ⟨t, .inl rfl, h⟩
      · exact .inr ⟨x, .inr hx, h⟩
    · rintro (h | ⟨x, rfl | hx, h⟩)
      · exact .inl (.inl h)
      · exact .inl (.inr h)
      · exact .inr ⟨x, hx, h⟩
theorem mem_sumT {z : Str} : ∀ (ts : List Tm), z ∈ (sumT ts).nms ↔ ∃ t ∈ ts, z ∈ t.nms
  | [] => by
    show z ∈ [] ↔ _
    simp
  | t :: ts => by
    show z ∈ (ts.foldl _ t).nms ↔ _
    rw [mem_foldT]
    simp
theorem mem_lsT {z : Str} {ks : List Nat} : z ∈ (sumT (lsT ks)).nms ↔ ∃ k ∈ ks, z = nmS "l" k := by
  rw [mem_sumT]
  unfold lsT
  constructor
  · rintro ⟨t, ht, h⟩
    obtain ⟨k, hk, rfl⟩ := List.mem_map.mp ht
    exact ⟨k, hk, List.mem_singleton.mp h⟩
  · rintro ⟨k, hk, rfl⟩
    exact ⟨_, List.mem_map.mpr ⟨k, hk, rfl⟩, List.mem_singleton.mpr rfl⟩
theorem mem_xs {z : Str} {m : Nat} : z ∈ (sumT ((List.range m).map fun j => Tm.name (nmS "x" j))).nms ↔ ∃ j < m, z = nmS "x" j := by
  rw [mem_sumT]
  constructor
  · rintro ⟨t, ht, h⟩
    obtain ⟨k, hk, rfl⟩ := List.mem_map.mp ht
    exact ⟨k, List.mem_range.mp hk, List.mem_singleton.mp h⟩
  · rintro ⟨k, hk, rfl⟩
    exact ⟨_, List.mem_map.mpr ⟨k, List.mem_range.mpr hk, rfl⟩, List.mem_singleton.mpr rfl⟩
theorem mem_namesL {z : Str} {m n : Nat} {es : List Nat} : z ∈ namesL m n es ↔ (∃ j < m, z = nmS "x" j) ∨ (∃ j < m, z = nmS "y" j) ∨ z ∈ nm8 ∨ (∃ j < m, z = nmS "r" j) ∨ (∃ k < n, z = nmS "l" k) ∨ (∃ e ∈ es, z = nmS "e" e) := by
  have h : ∀ (c : Str) (l : List Nat), z ∈ l.map (nmS c) ↔ ∃ j ∈ l, z = nmS c j := fun c l => by
    rw [List.mem_map]
    exact ⟨fun ⟨a, b, c⟩ => ⟨a, b, c.symm⟩, fun ⟨a, b, c⟩ => ⟨a, b, c.symm⟩⟩
  unfold namesL
  simp only [List.mem_append, h, List.mem_range]
  constructor
  · rintro (((((h | h) | h) | h) | h) | h)
    · exact .inl h
    · exact .inr (.inl h)
    · exact .inr (.inr (.inl h))
    · exact .inr (.inr (.inr (.inl h)))
    · exact .inr (.inr (.inr (.inr (.inl h))))
    · exact .inr (.inr (.inr (.inr (.inr h))))
  · rintro (h | h | h | h | h | h)
    · exact .inl (.inl (.inl (.inl (.inl h))))
    · exact .inl (.inl (.inl (.inl (.inr h))))
    · exact .inl (.inl (.inl (.inr h)))
    · exact .inl (.inl (.inr h))
    · exact .inl (.inr h)
    · exact .inr h
/-- no row but a stop or a go is the last one -/
theorem Prg.next {m : Nat} {rs : List Rw} (h : Prg m rs) {k : Nat} {r : Rw} (hk : rs[k]? = some r) (n1 : r ≠ .st) (n2 : ∀ g, r ≠ .go g) : k + 1 < rs.length := by
  obtain ⟨us, v, q, z⟩ := h.fin
  have hl := (List.getElem?_eq_some_iff.mp hk).1
  refine Nat.lt_of_not_le fun hle => ?_
  have hk2 : k = us.length := by
    rw [q, List.length_append] at hl hle
    have hl : k < us.length + 1 := hl
    have hle : us.length + 1 ≤ k + 1 := hle
    omega
  rw [q, hk2, List.getElem?_append_right (Nat.le_refl _), Nat.sub_self] at hk
  have e : v = r := Option.some.inj hk
  subst e
  cases v <;> first | exact n1 rfl | exact n2 _ rfl | exact z
theorem asked_of {m : Nat} {rs : List Rw} (h : Prg m rs) {k j g : Nat} (hk : rs[k]? = some (.br j g)) (n : g ≠ k + 1) : j ∈ asked m rs := by
  have hl := (List.getElem?_eq_some_iff.mp hk).1
  have ho := h.ok _ (List.mem_of_getElem? hk)
  refine List.mem_filter.mpr ⟨List.mem_range.mpr ho.1, List.any_eq_true.mpr ⟨k, List.mem_range.mpr hl, ?_⟩⟩
  rw [isAsk_br hk, decide_eq_true rfl, decide_eq_true n]
  rfl
theorem nm8_mem {z : Str} : z ∈ nm8 ↔ z = "s" ∨ z = "c" ∨ z = "h" ∨ z = "d" ∨ z = "q" ∨ z = "g" ∨ z = "i" ∨ z = "m" := by
  unfold nm8
  simp only [List.map_cons, List.map_nil, List.mem_cons, List.not_mem_nil, or_false]
theorem nms_in {m : Nat} {rs : List Rw} (h : Prg m rs) {z : Str} (hz : z ∈ nmSys (sysOf m rs)) : z ∈ namesL m rs.length (asked m rs) := by
  obtain ⟨s, hs, hz⟩ := mem_nmSys.mp hz
  rw [mem_namesL]
  have X : ∀ j, j < m → z = nmS "x" j → _ := fun j hj e => (Or.inl ⟨j, hj, e⟩ : (∃ j < m, z = nmS "x" j) ∨ (∃ j < m, z = nmS "y" j) ∨ z ∈ nm8 ∨ (∃ j < m, z = nmS "r" j) ∨ (∃ k < rs.length, z = nmS "l" k) ∨ (∃ e ∈ asked m rs, z = nmS "e" e))
  have Y : ∀ j, j < m → z = nmS "y" j → (∃ j < m, z = nmS "x" j) ∨ (∃ j < m, z = nmS "y" j) ∨ z ∈ nm8 ∨ (∃ j < m, z = nmS "r" j) ∨ (∃ k < rs.length, z = nmS "l" k) ∨ (∃ e ∈ asked m rs, z = nmS "e" e) := fun j hj e => .inr (.inl ⟨j, hj, e⟩)
  have N : (z = "s" ∨ z = "c" ∨ z = "h" ∨ z = "d" ∨ z = "q" ∨ z = "g" ∨ z = "i" ∨ z = "m") → (∃ j < m, z = nmS "x" j) ∨ (∃ j < m, z = nmS "y" j) ∨ z ∈ nm8 ∨ (∃ j < m, z = nmS "r" j) ∨ (∃ k < rs.length, z = nmS "l" k) ∨ (∃ e ∈ asked m rs, z = nmS "e" e) := fun e => .inr (.inr (.inl (nm8_mem.mpr e)))
  have R : ∀ j, j < m → z = nmS "r" j → (∃ j < m, z = nmS "x" j) ∨ (∃ j < m, z = nmS "y" j) ∨ z ∈ nm8 ∨ (∃ j < m, z = nmS "r" j) ∨ (∃ k < rs.length, z = nmS "l" k) ∨ (∃ e ∈ asked m rs, z = nmS "e" e) := fun j hj e => .inr (.inr (.inr (.inl ⟨j, hj, e⟩)))
  have L : ∀ k, k < rs.length → z = nmS "l" k → (∃ j < m, z = nmS "x" j) ∨ (∃ j < m, z = nmS "y" j) ∨ z ∈ nm8 ∨ (∃ j < m, z = nmS "r" j) ∨ (∃ k < rs.length, z = nmS "l" k) ∨ (∃ e ∈ asked m rs, z = nmS "e" e) := fun k hk e => .inr (.inr (.inr (.inr (.inl ⟨k, hk, e⟩))))
  have W : ∀ j, j ∈ asked m rs → z = nmS "e" j → (∃ j < m, z = nmS "x" j) ∨ (∃ j < m, z = nmS "y" j) ∨ z ∈ nm8 ∨ (∃ j < m, z = nmS "r" j) ∨ (∃ k < rs.length, z = nmS "l" k) ∨ (∃ e ∈ asked m rs, z = nmS "e" e) := fun j hj e => .inr (.inr (.inr (.inr (.inr ⟨j, hj, e⟩))))
  have X : ∀ j, j < m → z = nmS "x" j → (∃ j < m, z = nmS "x" j) ∨ (∃ j < m, z = nmS "y" j) ∨ z ∈ nm8 ∨ (∃ j < m, z = nmS "r" j) ∨ (∃ k < rs.length, z = nmS "l" k) ∨ (∃ e ∈ asked m rs, z = nmS "e" e) := X
  obtain ⟨G, hG⟩ : ∃ G : Prop, G = ((∃ j < m, z = nmS "x" j) ∨ (∃ j < m, z = nmS "y" j) ∨ z ∈ nm8 ∨ (∃ j < m, z = nmS "r" j) ∨ (∃ k < rs.length, z = nmS "l" k) ∨ (∃ e ∈ asked m rs, z = nmS "e" e)) := ⟨_, rfl⟩
  rw [← hG] at X Y N R L W ⊢
  have one : ∀ {c : Str}, z ∈ (Tm.name c).nms → z = c := fun q => List.mem_singleton.mp q
  have two : ∀ {w : Str} {a b : Tm}, z ∈ (Tm.op w a b).nms → z ∈ a.nms ∨ z ∈ b.nms := fun q => List.mem_append.mp q
  have non : ∀ {n : Nat}, z ∈ (Tm.num n).nms → False := fun q => by cases q
  have T : z ∈ topT.nms → G := fun q => by
    rcases two q with q | q
    · exact (non q).elim
    rcases two q with q | q
    · exact N (by rw [one q]; simp)
    rcases two q with q | q
    · exact N (by rw [one q]; simp)
    · exact (non q).elim
  have LS : ∀ {ks : List Nat}, (∀ k ∈ ks, k < rs.length) → z ∈ (sumT (lsT ks)).nms → G := fun hks q => by
    obtain ⟨k, hk, e⟩ := mem_lsT.mp q
    exact L k (hks k hk) e
  unfold sysOf at hs
  rcases List.mem_append.mp hs with hs | hs
  · rcases List.mem_append.mp hs with hs | hs
    · rcases List.mem_append.mp hs with hs | hs
      · unfold baseS at hs
        simp only [List.mem_cons, List.not_mem_nil, or_false] at hs
        rcases hs with rfl | rfl | rfl | rfl | rfl | rfl
        · rcases hz with q | q
          · exact N (by rw [one q]; simp)
          rcases two q with q | q
          · rcases two q with q | q
            · obtain ⟨j, hj, e⟩ := mem_xs.mp q
              exact X j hj e
            · exact (non q).elim
          · exact N (by rw [one q]; simp)
        · rcases hz with q | q
          · exact N (by rw [one q]; simp)
          rcases two q with q | q
          · exact (non q).elim
          · exact N (by rw [one q]; simp)
        · rcases hz with q | q
          · exact N (by rw [one q]; simp)
          rcases two q with q | q
          · exact (non q).elim
          · exact N (by rw [one q]; simp)
        · rcases hz with q | q
          · exact N (by rw [one q]; simp)
          rcases two q with q | q
          · exact (non q).elim
          · exact N (by rw [one q]; simp)
        · rcases hz with q | q
          · rcases two q with q | q
            · rcases two q with q | q
              · exact N (by rw [one q]; simp)
              · exact N (by rw [one q]; simp)
            · exact (non q).elim
          · rcases two q with q | q
            · exact T q
            · exact N (by rw [one q]; simp)
        · rcases hz with q | q
          · rcases two q with q | q
            · exact N (by rw [one q]; simp)
            · exact N (by rw [one q]; simp)
          · rcases two q with q | q
            · exact N (by rw [one q]; simp)
            · exact N (by rw [one q]; simp)
      · unfold timeS at hs
        rcases List.mem_append.mp hs with hs | hs
        · rcases List.mem_append.mp hs with hs | hs
          · rcases List.mem_append.mp hs with hs | hs
            · rcases List.mem_append.mp hs with hs | hs
              · rcases List.mem_append.mp hs with hs | hs
                · obtain ⟨j, hj, rfl⟩ := List.mem_map.mp hs
                  rcases hz with q | q
                  · exact R j (List.mem_range.mp hj) (one q)
                  · exact N (by rw [one q]; simp)
                · obtain ⟨j, hj, rfl⟩ := List.mem_map.mp hs
                  rcases hz with q | q
                  · exact L j (List.mem_range.mp hj) (one q)
                  · exact N (by rw [one q]; simp)
              · rw [List.mem_singleton.mp hs] at hz
                rcases hz with q | q
                · exact LS (fun k hk => List.mem_range.mp hk) q
                · exact N (by rw [one q]; simp)
            · rw [List.mem_singleton.mp hs] at hz
              rcases hz with q | q
              · exact (non q).elim
              · exact L 0 h.pos (one q)
          · rw [List.mem_singleton.mp hs] at hz
            rcases hz with q | q
            · exact LS (fun k hk => List.mem_range.mp (List.mem_filter.mp hk).1) q
            · rcases two q with q | q
              · exact (non q).elim
              rcases two q with q | q
              · exact N (by rw [one q]; simp)
              · exact N (by rw [one q]; simp)
        · obtain ⟨j, hj, rfl⟩ := List.mem_map.mp hs
          rcases hz with q | q
          · rcases two q with q | q
            · exact W j hj (one q)
            rcases two q with q | q
            · exact (non q).elim
            · exact R j (asked_lt j hj) (one q)
          · rcases two q with q | q
            · exact N (by rw [one q]; simp)
            · exact N (by rw [one q]; simp)
    · unfold rowsS at hs
      obtain ⟨l, hl, hsl⟩ := List.mem_flatten.mp hs
      obtain ⟨k, hk, rfl⟩ := List.mem_map.mp hl
      have hk := List.mem_range.mp hk
      obtain ⟨r, hr⟩ : ∃ r, rs[k]? = some r := ⟨_, List.getElem?_eq_getElem hk⟩
      have ho := h.ok r (List.mem_of_getElem? hr)
      have QL : z ∈ (Tm.op "times" (.name "q") (.name (nmS "l" k))).nms → G := fun q => by
        rcases two q with q | q
        · exact N (by rw [one q]; simp)
        · exact L k hk (one q)
      unfold rowS at hsl
      rw [hr] at hsl
      cases r with
      | st => cases hsl
      | go g =>
        rw [List.mem_singleton.mp hsl] at hz
        rcases hz with q | q
        · exact QL q
        · exact L g ho (one q)
      | up j =>
        have hn := h.next hr (by intro e; cases e) (by intro g e; cases e)
        rw [List.mem_singleton.mp hsl] at hz
        rcases hz with q | q
        · exact QL q
        · exact L (k + 1) hn (one q)
      | dn j =>
        have hn := h.next hr (by intro e; cases e) (by intro g e; cases e)
        rw [List.mem_singleton.mp hsl] at hz
        rcases hz with q | q
        · exact QL q
        · exact L (k + 1) hn (one q)
      | br j g =>
        have hn := h.next hr (by intro e; cases e) (by intro g e; cases e)
        by_cases e : g = k + 1
        · have hsl : s ∈ [undr (Tm.op "times" (.name "q") (.name (nmS "l" k))) (.name (nmS "l" (k + 1)))] := by
            have : s ∈ (if g = k + 1 then _ else _ : List SyW) := hsl
            rw [if_pos e] at this
            exact this
          rw [List.mem_singleton.mp hsl] at hz
          rcases hz with q | q
          · exact QL q
          · exact L (k + 1) hn (one q)
        · have hsl : s ∈ [undr (Tm.op "times" (.name "q") (.name (nmS "l" k))) (.op "plus" (.name (nmS "l" g)) (.name (nmS "l" (k + 1)))), undr (Tm.op "times" (.name "q") (.name (nmS "l" k))) (.op "plus" (.name (nmS "l" (k + 1))) (.name (nmS "e" j)))] := by
            have : s ∈ (if g = k + 1 then _ else _ : List SyW) := hsl
            rw [if_neg e] at this
            exact this
          rcases List.mem_cons.mp hsl with rfl | hsl
          · rcases hz with q | q
            · exact QL q
            rcases two q with q | q
            · exact L g ho.2 (one q)
            · exact L (k + 1) hn (one q)
          · rw [List.mem_singleton.mp hsl] at hz
            rcases hz with q | q
            · exact QL q
            rcases two q with q | q
            · exact L (k + 1) hn (one q)
            · exact W j (asked_of h hr e) (one q)
  · obtain ⟨j, hj, rfl⟩ := List.mem_map.mp hs
    have hj := List.mem_range.mp hj
    have PL : ∀ q0, ∀ k ∈ plc rs q0 rs.length, k < rs.length := fun q0 k hk => List.mem_range.mp (List.mem_filter.mp hk).1
    rcases hz with q | q
    · rcases two q with q | q
      · rcases two q with q | q
        · exact N (by rw [one q]; simp)
        rcases two q with q | q
        · exact R j hj (one q)
        · exact LS (PL _) q
      · exact X j hj (one q)
    · rcases two q with q | q
      · rcases two q with q | q
        · exact R j hj (one q)
        rcases two q with q | q
        · exact N (by rw [one q]; simp)
        · exact LS (PL _) q
      · rcases two q with q | q
        · exact T q
        · exact Y j hj (one q)
theorem names_full : (namesL 5 14 [0, 1, 2, 3, 4]).Nodup := by decide +kernel
theorem range_sub {m n : Nat} (h : m ≤ n) : (List.range m).Sublist (List.range n) := by
  rw [show n = m + (n - m) by omega, List.range_add]
  exact List.sublist_append_left _ _
theorem names_sub {m n : Nat} {es : List Nat} (hm : m ≤ 5) (hn : n ≤ 14) (he : es.Sublist (List.range m)) : (namesL m n es).Sublist (namesL 5 14 [0, 1, 2, 3, 4]) := by
  have e5 := range_sub hm
  have e14 := range_sub hn
  unfold namesL
  exact (((((e5.map _).append (e5.map _)).append (List.Sublist.refl _)).append (e5.map _)).append (e14.map _)).append ((he.trans e5).map _)
theorem asked_sub (m : Nat) (rs : List Rw) : (asked m rs).Sublist (List.range m) := List.filter_sublist
theorem names_nodup {m : Nat} {rs : List Rw} (h : Prg m rs) : (namesL m rs.length (asked m rs)).Nodup := (names_sub h.b5 h.len (asked_sub m rs)).nodup names_full
theorem names_len {m : Nat} {rs : List Rw} (h : Prg m rs) : (namesL m rs.length (asked m rs)).length ≤ 42 := (names_sub h.b5 h.len (asked_sub m rs)).length_le
/-! the sayings of a program are terms of few parts -/
theorem opPl {a b : Tm} (h : a.opw) (k : b.opw) : (Tm.op "plus" a b).opw := ⟨by decide +kernel, by decide +kernel, h, k⟩
theorem opw_fold : ∀ (ts : List Tm) (a : Tm), a.opw → (∀ t ∈ ts, t.opw ∧ t.wt = 1) → (ts.foldl (fun a b => Tm.op "plus" a b) a).opw ∧ (ts.foldl (fun a b => Tm.op "plus" a b) a).wt = a.wt + 3 * ts.length
  | [], a, h, _ => ⟨h, by simp⟩
  | t :: ts, a, h, k => by
    obtain ⟨k1, k2⟩ := k t List.mem_cons_self
    obtain ⟨h1, h2⟩ := opw_fold ts (.op "plus" a t) (opPl h k1) fun x hx => k x (List.mem_cons_of_mem _ hx)
    refine ⟨h1, ?_⟩
    rw [List.foldl_cons, h2]
    show a.wt + t.wt + 2 + _ = _
    rw [List.length_cons]
    omega
theorem opw_sum : ∀ (ts : List Tm), (∀ t ∈ ts, t.opw ∧ t.wt = 1) → (sumT ts).opw ∧ (sumT ts).wt ≤ 3 * ts.length + 1
  | [], _ => ⟨trivial, by show 1 ≤ _; omega⟩
  | t :: ts, h => by
    obtain ⟨k1, k2⟩ := h t List.mem_cons_self
    obtain ⟨h1, h2⟩ := opw_fold ts t k1 fun x hx => h x (List.mem_cons_of_mem _ hx)
    refine ⟨h1, ?_⟩
    show (ts.foldl _ t).wt ≤ _
    rw [h2, List.length_cons]
    omega
theorem opw_ls (ks : List Nat) : (sumT (lsT ks)).opw ∧ (sumT (lsT ks)).wt ≤ 3 * ks.length + 1 := by
  have h := opw_sum (lsT ks) fun t ht => by
    obtain ⟨k, _, rfl⟩ := List.mem_map.mp ht
    exact ⟨trivial, rfl⟩
  rw [lsT_len] at h
  exact h
/-! terms as data: alike, shown -/
/-- names and words are plain texts -/
def TmL : Tm → Prop
  | .num _ => True
  | .name s => PyData.strOk s = true
  | .op w a b => PyData.strOk w = true ∧ TmL a ∧ TmL b
/-! long sums shown -/
def TmX : Tm → Prop
  | .num n => n < 10 ^ 12
  | .name s => PyData.strOk s = true ∧ s.length ≤ 20
  | .op w a b => (PyData.strOk w = true ∧ w.length ≤ 20) ∧ TmX a ∧ TmX b
theorem TmX.l : ∀ {t : Tm}, TmX t → TmL t
  | .num _, _ => trivial
  | .name _, h => h.1
  | .op _ _ _, ⟨h1, h2, h3⟩ => ⟨h1.1, h2.l, h3.l⟩
structure Shb (d : PyData) (N : Nat) : Prop where
  sh : d.showable = true
  nd : d.hasDict = false
  lv : d.leavesShort 20 = true
  bk : d.bulk ≤ N
theorem Shb.up {d : PyData} {n m : Nat} (h : Shb d n) (l : n ≤ m) : Shb d m := ⟨h.sh, h.nd, h.lv, Nat.le_trans h.bk l⟩
/-! lists of terms: shown, added, made longer -/
theorem TmsAt.one {K : PySem.W.Frag} {H : Hp} {vs : List V} {ts : List Tm} {v : V} {t : Tm} (h : TmsAt K H vs ts) (e : TmAt K H t v) : TmsAt K H (vs ++ [v]) (ts ++ [t]) := paired_app h (.cons e .nil)
theorem TmsAt.len {K : PySem.W.Frag} {H : Hp} {vs : List V} {ts : List Tm} (h : TmsAt K H vs ts) : vs.length = ts.length := paired_len h
theorem TmsAt.get {K : PySem.W.Frag} {H : Hp} {vs : List V} {ts : List Tm} (h : TmsAt K H vs ts) {i : Nat} {t : Tm} (e : ts[i]? = some t) : ∃ v, atI vs (i : Nat) = some v ∧ TmAt K H t v := by
  have hi := (List.getElem?_eq_some_iff.mp e).1
  have hv : i < vs.length := by rw [paired_len h]; exact hi
  obtain ⟨t', ht, q⟩ := paired_get h (List.getElem?_eq_getElem hv)
  rw [e] at ht
  cases ht
  exact ⟨_, atI_nat (List.getElem?_eq_getElem hv), q⟩
theorem w_newM1 {K : PySem.W.Frag} {H : Hp} {Q : VK} {x : V} {s : Tm} (hs : TmAt K H s x) (k : ∀ p H', H p = none → Sm H H' → H' p = some (.lst [x]) → TmsAt K H' [x] [s] → Q (.ref p) H') : NewL [x] H Q :=
  w_newL (sz_of (Nat.le_of_ble_eq_true rfl)) fun p H' np sm g => k p H' np sm g (.cons (hs.sm sm) .nil)
theorem w_newM2 {K : PySem.W.Frag} {H : Hp} {Q : VK} {x y : V} {s t : Tm} (hs : TmAt K H s x) (ht : TmAt K H t y) (k : ∀ p H', H p = none → Sm H H' → H' p = some (.lst [x, y]) → TmsAt K H' [x, y] [s, t] → Q (.ref p) H') : NewL [x, y] H Q :=
  w_newL (sz_of (Nat.le_of_ble_eq_true rfl)) fun p H' np sm g => k p H' np sm g (.cons (hs.sm sm) (.cons (ht.sm sm) .nil))
theorem w_appM {K : PySem.W.Frag} {H : Hp} {Q : VK} {l : Addr} {xs : List V} {ss : List Tm} {x : V} {s : Tm} (h : H l = some (.lst xs)) (hS : TmsAt K H xs ss) (hs : TmAt K H s x) (z : xs.length ≤ 10000) (k : ∀ H', Kp l H H' → H' l = some (.lst (xs ++ [x])) → TmsAt K H' (xs ++ [x]) (ss ++ [s]) → Q .non H') : rAppend (.ref l) [x] H Q :=
  w_app h (sz_lt (by omega)) fun H' kp g => k H' kp g ((hS.one hs).kpL h kp)
theorem w_catM {K : PySem.W.Frag} {H : Hp} {Q : VK} {l b : Addr} {xs ys : List V} {ss ts : List Tm} (h : H l = some (.lst xs)) (hS : TmsAt K H xs ss) (hb : H b = some (.lst ys)) (hT : TmsAt K H ys ts) (z : xs.length + ys.length ≤ 10000) (k : ∀ p H', H p = none → Sm H H' → H' p = some (.lst (xs ++ ys)) → TmsAt K H' (xs ++ ys) (ss ++ ts) → Q (.ref p) H') : gAdd K (.ref l) (.ref b) H Q :=
  w_addL h hb (sz_of (by omega)) fun p H' np sm g => k p H' np sm g ((show TmsAt K H (xs ++ ys) (ss ++ ts) from paired_app hS hT).sm sm)
local macro_rules | `(tactic| tm_at "rms") => `(tactic| first | with_reducible assumption | ((refine' TmsAt.sm ?sa ?sb); (case sb => with_reducible assumption); (case sa => tm_at "rms")) | ((refine' TmsAt.kpL ?sa ?sc ?sb); (case sb => with_reducible assumption); (case sc => tm_at "rlk"); (case sa => tm_at "rms")) | fail "no")
local macro_rules | `(tactic| tm_at "rs") => `(tactic| first | ((with_reducible refine' w_catM ?h ?i ?j ?l ?m (fun _ _ _ _ _ _ => ?k)); (case h => tm_at "rlk"); (case i => tm_at "rms"); (case j => tm_at "rlk"); (case l => tm_at "rms"); (case m => first | omega | (simp only [List.length_cons, List.length_nil, List.length_append]; omega))) | fail "no")
local macro_rules | `(tactic| tm_at "rs") => `(tactic| first | ((with_reducible refine' w_appM ?h ?i ?j ?l (fun _ _ _ _ => ?k)); (case h => tm_at "rlk"); (case i => tm_at "rms"); (case j => tm_at "rtm"); (case l => first | omega | (simp only [List.length_cons, List.length_nil, List.length_append]; omega))) | fail "no")
local macro_rules | `(tactic| tm_at "rs") => `(tactic| first | ((with_reducible refine' w_newM2 ?h ?i (fun _ _ _ _ _ _ => ?k)); (case h => tm_at "rtm"); (case i => tm_at "rtm")) | fail "no")
local macro_rules | `(tactic| tm_at "rs") => `(tactic| first | ((with_reducible refine' w_newM1 ?h (fun _ _ _ _ _ _ => ?k)); (case h => tm_at "rtm")) | fail "no")
/-! a program's sayings shown: words and numbers are plain -/
def Tm.oq : Tm → Prop
  | .num n => n < 1000000000000
  | .name _ => True
  | .op w a b => (PyData.strOk w = true ∧ w.length ≤ 20) ∧ a.oq ∧ b.oq
def SayOk2 (s : SyW) : Prop := s.2.1.oq ∧ s.2.2.oq ∧ s.2.1.wt ≤ 100 ∧ s.2.2.wt ≤ 100
theorem oqPl {a b : Tm} (h : a.oq) (k : b.oq) : (Tm.op "plus" a b).oq := ⟨⟨by decide +kernel, by decide⟩, h, k⟩
theorem oqMl {a b : Tm} (h : a.oq) (k : b.oq) : (Tm.op "times" a b).oq := ⟨⟨by decide +kernel, by decide⟩, h, k⟩
theorem oqPw {a b : Tm} (h : a.oq) (k : b.oq) : (Tm.op "power" a b).oq := ⟨⟨by decide +kernel, by decide⟩, h, k⟩
theorem oqw_fold : ∀ (ts : List Tm) (a : Tm), a.oq → (∀ t ∈ ts, t.oq ∧ t.wt = 1) → (ts.foldl (fun a b => Tm.op "plus" a b) a).oq ∧ (ts.foldl (fun a b => Tm.op "plus" a b) a).wt = a.wt + 3 * ts.length
  | [], a, h, _ => ⟨h, by simp⟩
  | t :: ts, a, h, k => by
    obtain ⟨k1, k2⟩ := k t List.mem_cons_self
    obtain ⟨h1, h2⟩ := oqw_fold ts (.op "plus" a t) (oqPl h k1) fun x hx => k x (List.mem_cons_of_mem _ hx)
    refine ⟨h1, ?_⟩
    rw [List.foldl_cons, h2]
    show a.wt + t.wt + 2 + _ = _
    rw [List.length_cons]
    omega
theorem oqw_sum : ∀ (ts : List Tm), (∀ t ∈ ts, t.oq ∧ t.wt = 1) → (sumT ts).oq ∧ (sumT ts).wt ≤ 3 * ts.length + 1
  | [], _ => ⟨show (0 : Nat) < 1000000000000 by decide, by show 1 ≤ _; omega⟩
  | t :: ts, h => by
    obtain ⟨k1, k2⟩ := h t List.mem_cons_self
    obtain ⟨h1, h2⟩ := oqw_fold ts t k1 fun x hx => h x (List.mem_cons_of_mem _ hx)
    refine ⟨h1, ?_⟩
    show (ts.foldl _ t).wt ≤ _
    rw [h2, List.length_cons]
    omega
theorem oqw_ls (ks : List Nat) : (sumT (lsT ks)).oq ∧ (sumT (lsT ks)).wt ≤ 3 * ks.length + 1 := by
  have h := oqw_sum (lsT ks) fun t ht => by
    obtain ⟨k, _, rfl⟩ := List.mem_map.mp ht
    exact ⟨trivial, rfl⟩
  rw [lsT_len] at h
  exact h
theorem oqw_xs (m : Nat) : (sumT ((List.range m).map fun j => Tm.name (nmS "x" j))).oq ∧ (sumT ((List.range m).map fun j => Tm.name (nmS "x" j))).wt ≤ 3 * m + 1 := by
  have h := oqw_sum ((List.range m).map fun j => Tm.name (nmS "x" j)) fun t ht => by
    obtain ⟨k, _, rfl⟩ := List.mem_map.mp ht
    exact ⟨trivial, rfl⟩
  rw [List.length_map, List.length_range] at h
  exact h
local macro_rules | `(tactic| tm_at "roq") => `(tactic| first | exact trivial | (show (_ : Nat) < 1000000000000; omega) | fail "no")
theorem sys_ok2 {m : Nat} {rs : List Rw} (h : Prg m rs) : ∀ s ∈ sysOf m rs, SayOk2 s := by
  intro s hs
  have h14 := h.len
  have h5 := h.b5
  have x1 := oqw_xs m
  have top : topT.oq := oqPw (by tm_at "roq") (oqMl (by tm_at "roq") (oqPl (by tm_at "roq") (by tm_at "roq")))
  have tw : topT.wt = 10 := rfl
  have base : ∀ {a b : Tm}, a.oq → b.oq → a.wt ≤ 100 → b.wt ≤ 100 → ∀ {w : Str}, SayOk2 (w, a, b) := fun h1 h2 h3 h4 => ⟨h1, h2, h3, h4⟩
  unfold sysOf at hs
  rcases List.mem_append.mp hs with hs | hs
  · rcases List.mem_append.mp hs with hs | hs
    · rcases List.mem_append.mp hs with hs | hs
      · unfold baseS at hs
        simp only [List.mem_cons, List.not_mem_nil, or_false] at hs
        rcases hs with rfl | rfl | rfl | rfl | rfl | rfl
        · refine base ?_ ?_ ?_ ?_
          · exact (by tm_at "roq")
          · exact (oqPl (oqPl x1.1 (by tm_at "roq")) (by tm_at "roq"))
          · show _ ≤ 100; (first | decide | (simp only [Tm.wt]; omega))
          · exact (by simp only [Tm.wt]; omega)
        · refine base ?_ ?_ ?_ ?_
          · exact (by tm_at "roq")
          · exact (oqMl (by tm_at "roq") (by tm_at "roq"))
          · show _ ≤ 100; (first | decide | (simp only [Tm.wt]; omega))
          · show _ ≤ 100; (first | decide | (simp only [Tm.wt]; omega))
        · refine base ?_ ?_ ?_ ?_
          · exact (by tm_at "roq")
          · exact (oqPw (by tm_at "roq") (by tm_at "roq"))
          · show _ ≤ 100; (first | decide | (simp only [Tm.wt]; omega))
          · show _ ≤ 100; (first | decide | (simp only [Tm.wt]; omega))
        · refine base ?_ ?_ ?_ ?_
          · exact (by tm_at "roq")
          · exact (oqPl (by tm_at "roq") (by tm_at "roq"))
          · show _ ≤ 100; (first | decide | (simp only [Tm.wt]; omega))
          · exact (by simp only [Tm.wt]; omega)
        · refine base ?_ ?_ ?_ ?_
          · exact (oqPl (oqMl (by tm_at "roq") (by tm_at "roq")) (by tm_at "roq"))
          · exact (oqPl top (by tm_at "roq"))
          · show _ ≤ 100; (first | decide | (simp only [Tm.wt]; omega))
          · show _ ≤ 100; (first | decide | (simp only [Tm.wt]; omega))
        · refine base ?_ ?_ ?_ ?_
          · exact (oqPl (by tm_at "roq") (by tm_at "roq"))
          · exact (oqMl (by tm_at "roq") (by tm_at "roq"))
          · show _ ≤ 100; (first | decide | (simp only [Tm.wt]; omega))
          · show _ ≤ 100; (first | decide | (simp only [Tm.wt]; omega))
      · unfold timeS at hs
        rcases List.mem_append.mp hs with hs | hs
        · rcases List.mem_append.mp hs with hs | hs
          · rcases List.mem_append.mp hs with hs | hs
            · rcases List.mem_append.mp hs with hs | hs
              · rcases List.mem_append.mp hs with hs | hs
                · obtain ⟨j, hj, rfl⟩ := List.mem_map.mp hs
                  refine base ?_ ?_ ?_ ?_
                  · exact (by tm_at "roq")
                  · exact (by tm_at "roq")
                  · show _ ≤ 100; (first | decide | (simp only [Tm.wt]; omega))
                  · show _ ≤ 100; (first | decide | (simp only [Tm.wt]; omega))
                · obtain ⟨j, hj, rfl⟩ := List.mem_map.mp hs
                  refine base ?_ ?_ ?_ ?_
                  · exact (by tm_at "roq")
                  · exact (by tm_at "roq")
                  · show _ ≤ 100; (first | decide | (simp only [Tm.wt]; omega))
                  · show _ ≤ 100; (first | decide | (simp only [Tm.wt]; omega))
              · rw [List.mem_singleton.mp hs]
                have := oqw_ls (List.range rs.length)
                rw [List.length_range] at this
                refine base ?_ ?_ ?_ ?_
                · exact this.1
                · exact (by tm_at "roq")
                · exact (by omega)
                · show _ ≤ 100; (first | decide | (simp only [Tm.wt]; omega))
            · rw [List.mem_singleton.mp hs]
              refine base ?_ ?_ ?_ ?_
              · exact (by tm_at "roq")
              · exact (by tm_at "roq")
              · show _ ≤ 100; (first | decide | (simp only [Tm.wt]; omega))
              · show _ ≤ 100; (first | decide | (simp only [Tm.wt]; omega))
          · rw [List.mem_singleton.mp hs]
            have := oqw_ls (stpK rs rs.length)
            have h2 := stpK_len rs rs.length
            refine base ?_ ?_ ?_ ?_
            · exact this.1
            · exact (oqPw (by tm_at "roq") (oqMl (by tm_at "roq") (by tm_at "roq")))
            · exact (by omega)
            · show _ ≤ 100; (first | decide | (simp only [Tm.wt]; omega))
        · obtain ⟨j, hj, rfl⟩ := List.mem_map.mp hs
          refine base ?_ ?_ ?_ ?_
          · exact (oqPl (by tm_at "roq") (oqMl (by tm_at "roq") (by tm_at "roq")))
          · exact (oqMl (by tm_at "roq") (by tm_at "roq"))
          · exact (by simp only [Tm.wt]; omega)
          · show _ ≤ 100; (first | decide | (simp only [Tm.wt]; omega))
    · unfold rowsS at hs
      obtain ⟨l, hl, hsl⟩ := List.mem_flatten.mp hs
      obtain ⟨k, hk, rfl⟩ := List.mem_map.mp hl
      unfold rowS at hsl
      split at hsl
      · cases hsl
      · rw [List.mem_singleton.mp hsl]
        refine base ?_ ?_ ?_ ?_
        · exact (oqMl (by tm_at "roq") (by tm_at "roq"))
        · exact (by tm_at "roq")
        · exact (by simp only [Tm.wt]; omega)
        · exact (by simp only [Tm.wt]; omega)
      · split at hsl
        · rw [List.mem_singleton.mp hsl]
          refine base ?_ ?_ ?_ ?_
          · exact (oqMl (by tm_at "roq") (by tm_at "roq"))
          · exact (by tm_at "roq")
          · exact (by simp only [Tm.wt]; omega)
          · exact (by simp only [Tm.wt]; omega)
        · rcases List.mem_cons.mp hsl with rfl | hsl
          · refine base ?_ ?_ ?_ ?_
            · exact (oqMl (by tm_at "roq") (by tm_at "roq"))
            · exact (oqPl (by tm_at "roq") (by tm_at "roq"))
            · exact (by simp only [Tm.wt]; omega)
            · exact (by simp only [Tm.wt]; omega)
          · rw [List.mem_singleton.mp hsl]
            refine base ?_ ?_ ?_ ?_
            · exact (oqMl (by tm_at "roq") (by tm_at "roq"))
            · exact (oqPl (by tm_at "roq") (by tm_at "roq"))
            · exact (by simp only [Tm.wt]; omega)
            · exact (by simp only [Tm.wt]; omega)
      · rw [List.mem_singleton.mp hsl]
        refine base ?_ ?_ ?_ ?_
        · exact (oqMl (by tm_at "roq") (by tm_at "roq"))
        · exact (by tm_at "roq")
        · exact (by simp only [Tm.wt]; omega)
        · exact (by simp only [Tm.wt]; omega)
      · cases hsl
  · obtain ⟨j, hj, rfl⟩ := List.mem_map.mp hs
    have l1 := oqw_ls (plc rs (.up j) rs.length)
    have l2 := oqw_ls (plc rs (.dn j) rs.length)
    have e1 := plc_len rs (.up j) rs.length
    have e2 := plc_len rs (.dn j) rs.length
    refine base ?_ ?_ ?_ ?_
    · exact (oqPl (oqMl (by tm_at "roq") (oqPl (by tm_at "roq") l1.1)) (by tm_at "roq"))
    · exact (oqPl (oqPl (by tm_at "roq") (oqMl (by tm_at "roq") l2.1)) (oqMl top (by tm_at "roq")))
    · exact (by simp only [Tm.wt]; omega)
    · exact (by simp only [Tm.wt]; omega)
theorem sys_word (m : Nat) (rs : List Rw) : ∀ s ∈ sysOf m rs, s.1 = Str.ofString "same" ∨ s.1 = Str.ofString "under" := by
  intro s hs
  unfold sysOf at hs
  simp only [List.mem_append] at hs
  rcases hs with ((hs | hs) | hs) | hs
  · unfold baseS at hs
    simp only [List.mem_cons, List.not_mem_nil, or_false] at hs
    rcases hs with rfl | rfl | rfl | rfl | rfl | rfl <;> exact .inl rfl
  · unfold timeS at hs
    simp only [List.mem_append] at hs
    rcases hs with ((((hs | hs) | hs) | hs) | hs) | hs
    · obtain ⟨j, hj, rfl⟩ := List.mem_map.mp hs
      exact .inr rfl
    · obtain ⟨j, hj, rfl⟩ := List.mem_map.mp hs
      exact .inr rfl
    · rw [List.mem_singleton.mp hs]
      exact .inl rfl
    · rw [List.mem_singleton.mp hs]
      exact .inr rfl
    · rw [List.mem_singleton.mp hs]
      exact .inl rfl
    · obtain ⟨j, hj, rfl⟩ := List.mem_map.mp hs
      exact .inl rfl
  · unfold rowsS at hs
    obtain ⟨l, hl, hsl⟩ := List.mem_flatten.mp hs
    obtain ⟨k, hk, rfl⟩ := List.mem_map.mp hl
    unfold rowS at hsl
    split at hsl
    · cases hsl
    · rw [List.mem_singleton.mp hsl]
      exact .inr rfl
    · split at hsl
      · rw [List.mem_singleton.mp hsl]
        exact .inr rfl
      · rcases List.mem_cons.mp hsl with rfl | hsl
        · exact .inr rfl
        · rw [List.mem_singleton.mp hsl]
          exact .inr rfl
    · rw [List.mem_singleton.mp hsl]
      exact .inr rfl
    · cases hsl
  · obtain ⟨j, hj, rfl⟩ := List.mem_map.mp hs
    exact .inl rfl
theorem sys_len66 {m : Nat} {rs : List Rw} (h : Prg m rs) : (sysOf m rs).length ≤ 66 := by
  unfold sysOf
  rw [List.length_append, List.length_append, List.length_append, baseS_len, timeS_len, List.length_map, List.length_range]
  have := rowsS_len rs rs.length
  have := asked_le m rs
  have := h.b5
  have := h.len
  omega
/-! a program's sayings can be looked at, where the numbers are not too great -/
theorem all_sum {P : Tm → Prop} (nu : ∀ n, n ≤ 20 → P (.num n)) (pl : ∀ a b, P a → P b → P (.op "plus" a b)) : ∀ ts : List Tm, (∀ t ∈ ts, P t) → P (sumT ts)
  | [], _ => nu 0 (by decide)
  | t :: ts, h => by
    show P (ts.foldl _ t)
    have go : ∀ (us : List Tm) (a : Tm), P a → (∀ t ∈ us, P t) → P (us.foldl (fun a b => Tm.op "plus" a b) a) := by
      intro us
      induction us with
      | nil => exact fun a h _ => h
      | cons u us ih => exact fun a h k => ih _ (pl _ _ h (k u List.mem_cons_self)) fun x hx => k x (List.mem_cons_of_mem _ hx)
    exact go ts t (h t List.mem_cons_self) fun x hx => h x (List.mem_cons_of_mem _ hx)
theorem sys_all {P : Tm → Prop} (nm : ∀ z, P (.name z)) (nu : ∀ n, n ≤ 20 → P (.num n)) (pl : ∀ a b, P a → P b → P (.op "plus" a b)) (ml : ∀ a b, P a → P b → P (.op "times" a b)) (p1 : P (.op "power" (.num 2) (.name "c"))) (p2 : P (pwAt (.name "s"))) (p3 : P topT)
    {m : Nat} {rs : List Rw} (h : Prg m rs) : ∀ s ∈ sysOf m rs, P s.2.1 ∧ P s.2.2 := by
  intro s hs
  have h14 := h.len
  have h5 := h.b5
  have sumP : ∀ ts : List Tm, (∀ t ∈ ts, P t) → P (sumT ts) := all_sum nu pl
  have lsP : ∀ ks, P (sumT (lsT ks)) := fun ks => sumP _ fun t ht => by
    obtain ⟨k, _, rfl⟩ := List.mem_map.mp ht
    exact nm _
  have x1 : P (sumT ((List.range m).map fun j => Tm.name (nmS "x" j))) := sumP _ fun t ht => by
    obtain ⟨k, _, rfl⟩ := List.mem_map.mp ht
    exact nm _
  have base : ∀ {a b : Tm}, P a → P b → ∀ {w : Str}, P (w, a, b).2.1 ∧ P (w, a, b).2.2 := fun h1 h2 => ⟨h1, h2⟩
  unfold sysOf at hs
  rcases List.mem_append.mp hs with hs | hs
  · rcases List.mem_append.mp hs with hs | hs
    · rcases List.mem_append.mp hs with hs | hs
      · unfold baseS at hs
        simp only [List.mem_cons, List.not_mem_nil, or_false] at hs
        rcases hs with rfl | rfl | rfl | rfl | rfl | rfl
        · refine base ?_ ?_
          · (first | exact nm _ | exact nu _ (by first | decide | omega))
          · exact (pl _ _ (pl _ _ x1 (by (first | exact nm _ | exact nu _ (by first | decide | omega)))) (by (first | exact nm _ | exact nu _ (by first | decide | omega))))
        · refine base ?_ ?_
          · (first | exact nm _ | exact nu _ (by first | decide | omega))
          · exact (ml _ _ (by (first | exact nm _ | exact nu _ (by first | decide | omega))) (by (first | exact nm _ | exact nu _ (by first | decide | omega))))
        · refine base ?_ ?_
          · (first | exact nm _ | exact nu _ (by first | decide | omega))
          · exact p1
        · refine base ?_ ?_
          · (first | exact nm _ | exact nu _ (by first | decide | omega))
          · exact (pl _ _ (by (first | exact nm _ | exact nu _ (by first | decide | omega))) (by (first | exact nm _ | exact nu _ (by first | decide | omega))))
        · refine base ?_ ?_
          · exact (pl _ _ (ml _ _ (by (first | exact nm _ | exact nu _ (by first | decide | omega))) (by (first | exact nm _ | exact nu _ (by first | decide | omega)))) (by (first | exact nm _ | exact nu _ (by first | decide | omega))))
          · exact (pl _ _ p3 (by (first | exact nm _ | exact nu _ (by first | decide | omega))))
        · refine base ?_ ?_
          · exact (pl _ _ (by (first | exact nm _ | exact nu _ (by first | decide | omega))) (by (first | exact nm _ | exact nu _ (by first | decide | omega))))
          · exact (ml _ _ (by (first | exact nm _ | exact nu _ (by first | decide | omega))) (by (first | exact nm _ | exact nu _ (by first | decide | omega))))
      · unfold timeS at hs
        rcases List.mem_append.mp hs with hs | hs
        · rcases List.mem_append.mp hs with hs | hs
          · rcases List.mem_append.mp hs with hs | hs
            · rcases List.mem_append.mp hs with hs | hs
              · rcases List.mem_append.mp hs with hs | hs
                · obtain ⟨j, hj, rfl⟩ := List.mem_map.mp hs
                  refine base ?_ ?_
                  · (first | exact nm _ | exact nu _ (by first | decide | omega))
                  · (first | exact nm _ | exact nu _ (by first | decide | omega))
                · obtain ⟨j, hj, rfl⟩ := List.mem_map.mp hs
                  refine base ?_ ?_
                  · (first | exact nm _ | exact nu _ (by first | decide | omega))
                  · (first | exact nm _ | exact nu _ (by first | decide | omega))
              · rw [List.mem_singleton.mp hs]
                have := opw_ls (List.range rs.length)
                refine base ?_ ?_
                · exact (lsP _)
                · (first | exact nm _ | exact nu _ (by first | decide | omega))
            · rw [List.mem_singleton.mp hs]
              refine base ?_ ?_
              · (first | exact nm _ | exact nu _ (by first | decide | omega))
              · (first | exact nm _ | exact nu _ (by first | decide | omega))
          · rw [List.mem_singleton.mp hs]
            have := opw_ls (stpK rs rs.length)
            refine base ?_ ?_
            · exact (lsP _)
            · exact p2
        · obtain ⟨j, hj, rfl⟩ := List.mem_map.mp hs
          refine base ?_ ?_
          · exact (pl _ _ (by (first | exact nm _ | exact nu _ (by first | decide | omega))) (ml _ _ (by (first | exact nm _ | exact nu _ (by first | decide | omega))) (by (first | exact nm _ | exact nu _ (by first | decide | omega)))))
          · exact (ml _ _ (by (first | exact nm _ | exact nu _ (by first | decide | omega))) (by (first | exact nm _ | exact nu _ (by first | decide | omega))))
    · unfold rowsS at hs
      obtain ⟨l, hl, hsl⟩ := List.mem_flatten.mp hs
      obtain ⟨k, hk, rfl⟩ := List.mem_map.mp hl
      unfold rowS at hsl
      split at hsl
      · cases hsl
      · rw [List.mem_singleton.mp hsl]
        refine base ?_ ?_
        · exact (ml _ _ (by (first | exact nm _ | exact nu _ (by first | decide | omega))) (by (first | exact nm _ | exact nu _ (by first | decide | omega))))
        · (first | exact nm _ | exact nu _ (by first | decide | omega))
      · split at hsl
        · rw [List.mem_singleton.mp hsl]
          refine base ?_ ?_
          · exact (ml _ _ (by (first | exact nm _ | exact nu _ (by first | decide | omega))) (by (first | exact nm _ | exact nu _ (by first | decide | omega))))
          · (first | exact nm _ | exact nu _ (by first | decide | omega))
        · rcases List.mem_cons.mp hsl with rfl | hsl
          · refine base ?_ ?_
            · exact (ml _ _ (by (first | exact nm _ | exact nu _ (by first | decide | omega))) (by (first | exact nm _ | exact nu _ (by first | decide | omega))))
            · exact (pl _ _ (by (first | exact nm _ | exact nu _ (by first | decide | omega))) (by (first | exact nm _ | exact nu _ (by first | decide | omega))))
          · rw [List.mem_singleton.mp hsl]
            refine base ?_ ?_
            · exact (ml _ _ (by (first | exact nm _ | exact nu _ (by first | decide | omega))) (by (first | exact nm _ | exact nu _ (by first | decide | omega))))
            · exact (pl _ _ (by (first | exact nm _ | exact nu _ (by first | decide | omega))) (by (first | exact nm _ | exact nu _ (by first | decide | omega))))
      · rw [List.mem_singleton.mp hsl]
        refine base ?_ ?_
        · exact (ml _ _ (by (first | exact nm _ | exact nu _ (by first | decide | omega))) (by (first | exact nm _ | exact nu _ (by first | decide | omega))))
        · (first | exact nm _ | exact nu _ (by first | decide | omega))
      · cases hsl
  · obtain ⟨j, hj, rfl⟩ := List.mem_map.mp hs
    refine base ?_ ?_
    · exact (pl _ _ (ml _ _ (by (first | exact nm _ | exact nu _ (by first | decide | omega))) (pl _ _ (by (first | exact nm _ | exact nu _ (by first | decide | omega))) (lsP _))) (by (first | exact nm _ | exact nu _ (by first | decide | omega))))
    · exact (pl _ _ (pl _ _ (by (first | exact nm _ | exact nu _ (by first | decide | omega))) (ml _ _ (by (first | exact nm _ | exact nu _ (by first | decide | omega))) (lsP _))) (ml _ _ p3 (by (first | exact nm _ | exact nu _ (by first | decide | omega)))))
/-- how many bits -/
def bw (B : Nat) : Tm → Nat
  | .num _ => 20
  | .name _ => B
  | .op w a b => if w = "plus" then max (bw B a) (bw B b) + 1 else if w = "times" then bw B a + bw B b else 5000
theorem bw_le {B : Nat} (hB : 5000 ≤ B) : ∀ t : Tm, bw B t ≤ t.wt * B
  | .num _ => by show 20 ≤ 1 * B; omega
  | .name _ => by show B ≤ 1 * B; omega
  | .op w a b => by
    have h1 := bw_le hB a
    have h2 := bw_le hB b
    have e : (Tm.op w a b).wt * B = a.wt * B + b.wt * B + 2 * B := by
      show (a.wt + b.wt + 2) * B = _
      rw [Nat.add_mul, Nat.add_mul]
    rw [e]
    show (if w = "plus" then max (bw B a) (bw B b) + 1 else if w = "times" then bw B a + bw B b else 5000) ≤ _
    split
    · omega
    · split <;> omega
theorem bw_pos {B : Nat} (hB : 1 ≤ B) : ∀ t : Tm, 1 ≤ bw B t
  | .num _ => by show 1 ≤ 20; decide
  | .name _ => hB
  | .op w a b => by
    have h1 := bw_pos hB a
    have h2 := bw_pos hB b
    show 1 ≤ (if w = "plus" then max (bw B a) (bw B b) + 1 else if w = "times" then bw B a + bw B b else 5000)
    split
    · omega
    · split <;> omega
/-- a name with its number -/
def NOk (kvs : List (Key × V)) (g : Str → Nat) (B : Nat) (z : Str) : Prop := valV kvs (.inr z) = some (.int (g z : Nat)) ∧ g z < 2 ^ B
def TB (kvs : List (Key × V)) (g : Str → Nat) (B : Nat) (t : Tm) : Prop := t.wt ≤ 100 → (∀ z ∈ t.nms, NOk kvs g B z) → TmOk kvs g t ∧ ev g t < 2 ^ bw B t
theorem tb_mono {x m n : Nat} (h : x < 2 ^ m) (l : m ≤ n) : x < 2 ^ n := Nat.lt_of_lt_of_le h (Nat.pow_le_pow_right (by decide) l)
section
variable {kvs : List (Key × V)} {g : Str → Nat} {B : Nat}
theorem tb_name (hB2 : B ≤ 9000) (z : Str) : TB kvs g B (.name z) := fun _ h => by
  have h := h z (List.mem_singleton.mpr rfl)
  exact ⟨⟨h.1, B, h.2, by omega⟩, h.2⟩
theorem tb_num {n : Nat} (hn : n ≤ 20) : TB kvs g B (.num n) := fun _ _ => by
  have h : n < 2 ^ 20 := Nat.lt_of_le_of_lt hn (by decide)
  exact ⟨⟨20, h, by decide⟩, h⟩
theorem tb_plus (hB : 5000 ≤ B) (hB2 : B ≤ 9000) {a b : Tm} (ha : TB kvs g B a) (hb : TB kvs g B b) : TB kvs g B (.op "plus" a b) := fun hw h => by
  have hw : a.wt + b.wt + 2 ≤ 100 := hw
  obtain ⟨a1, a2⟩ := ha (by omega) fun z hz => h z (List.mem_append_left _ hz)
  obtain ⟨b1, b2⟩ := hb (by omega) fun z hz => h z (List.mem_append_right _ hz)
  have l1 := bw_le hB a
  have l2 := bw_le hB b
  have k1 : a.wt * B ≤ 98 * 9000 := Nat.mul_le_mul (by omega) hB2
  have k2 : b.wt * B ≤ 98 * 9000 := Nat.mul_le_mul (by omega) hB2
  have m1 := bw_pos (B := B) (by omega) a
  have a3 := tb_mono a2 (Nat.le_max_left (bw B a) (bw B b))
  have b3 := tb_mono b2 (Nat.le_max_right (bw B a) (bw B b))
  refine ⟨⟨by decide +kernel, by decide +kernel, a1, b1, max (bw B a) (bw B b), by omega, a3, .inl ⟨rfl, b3, by omega⟩⟩, ?_⟩
  show cm "plus" (ev g a) (ev g b) < 2 ^ (if Str.ofString "plus" = "plus" then max (bw B a) (bw B b) + 1 else _)
  rw [if_pos rfl, Nat.pow_succ]
  show (if Str.ofString "plus" = "plus" then ev g a + ev g b else _) < _
  rw [if_pos rfl]
  omega
theorem tb_times (hB : 5000 ≤ B) (hB2 : B ≤ 9000) {a b : Tm} (ha : TB kvs g B a) (hb : TB kvs g B b) : TB kvs g B (.op "times" a b) := fun hw h => by
  have hw : a.wt + b.wt + 2 ≤ 100 := hw
  obtain ⟨a1, a2⟩ := ha (by omega) fun z hz => h z (List.mem_append_left _ hz)
  obtain ⟨b1, b2⟩ := hb (by omega) fun z hz => h z (List.mem_append_right _ hz)
  have l1 := bw_le hB a
  have l2 := bw_le hB b
  have k1 : (a.wt + b.wt) * B ≤ 98 * 9000 := Nat.mul_le_mul (by omega) hB2
  rw [Nat.add_mul] at k1
  have m1 := bw_pos (B := B) (by omega) a
  have ne : ¬ Str.ofString "times" = Str.ofString "plus" := by decide +kernel
  refine ⟨⟨by decide +kernel, by decide +kernel, a1, b1, bw B a, m1, a2, .inr (.inl ⟨rfl, bw B b, b2, by omega⟩)⟩, ?_⟩
  show cm "times" (ev g a) (ev g b) < 2 ^ (if Str.ofString "times" = "plus" then _ else if Str.ofString "times" = "times" then bw B a + bw B b else _)
  rw [if_neg ne, if_pos rfl, Nat.pow_add]
  show (if Str.ofString "times" = "plus" then _ else if Str.ofString "times" = "times" then ev g a * ev g b else _) < _
  rw [if_neg ne, if_pos rfl]
  exact Nat.mul_lt_mul'' a2 b2
theorem tb_pow {t : Tm} (hv : (∀ z ∈ t.nms, NOk kvs g B z) → ev g t < 5000) (ht : TB kvs g B t) : TB kvs g B (.op "power" (.num 2) t) := fun hw h => by
  have hw : 1 + t.wt + 2 ≤ 100 := hw
  have hz : ∀ z ∈ t.nms, NOk kvs g B z := fun z hz => h z (List.mem_append_right _ hz)
  obtain ⟨b1, b2⟩ := ht (by omega) hz
  have hv := hv hz
  have n1 : ¬ Str.ofString "power" = Str.ofString "plus" := by decide +kernel
  have n2 : ¬ Str.ofString "power" = Str.ofString "times" := by decide +kernel
  refine ⟨⟨by decide +kernel, by decide +kernel, ⟨20, by show 2 < 2 ^ 20; decide, by decide⟩, b1, 2, by decide, by show 2 < 2 ^ 2; decide, .inr (.inr ⟨n1, n2, pw_of (by show 2 < 2 ^ 2; decide) (by decide) (by omega)⟩)⟩, ?_⟩
  show cm "power" 2 (ev g t) < 2 ^ (if Str.ofString "power" = "plus" then _ else if Str.ofString "power" = "times" then _ else 5000)
  rw [if_neg n1, if_neg n2]
  show (if Str.ofString "power" = "plus" then _ else if Str.ofString "power" = "times" then _ else 2 ^ ev g t) < _
  rw [if_neg n1, if_neg n2]
  exact Nat.pow_lt_pow_right (by decide) hv
end
theorem dep_wt3 : ∀ t : Tm, 3 * t.dep + 1 ≤ t.wt
  | .num _ => Nat.le_refl _
  | .name _ => Nat.le_refl _
  | .op w a b => by
    have h1 := dep_wt3 a
    have h2 := dep_wt3 b
    show 3 * (max a.dep b.dep + 1) + 1 ≤ a.wt + b.wt + 2
    omega
/-- every saying of a program can be looked at -/
theorem sys_tm {kvs : List (Key × V)} {g : Str → Nat} {B m : Nat} {rs : List Rw} (h : Prg m rs) (hB : 5000 ≤ B) (hB2 : B ≤ 9000) (hN : ∀ z ∈ namesL m rs.length (asked m rs), NOk kvs g B z) (ht : g "c" * (g "s" + 1) < 5000) :
    ∀ s ∈ sysOf m rs, (TmOk kvs g s.2.1 ∧ s.2.1.dep ≤ 39 ∧ s.2.1.wt ≤ 100) ∧ (TmOk kvs g s.2.2 ∧ s.2.2.dep ≤ 39 ∧ s.2.2.wt ≤ 100) := by
  have c1 : g "c" < 5000 := by
    have h1 := Nat.le_mul_of_pos_right (g "c") (Nat.succ_pos (g "s"))
    exact Nat.lt_of_le_of_lt h1 ht
  have c2 : g "c" * g "s" < 5000 := by
    have : g "c" * g "s" ≤ g "c" * (g "s" + 1) := Nat.mul_le_mul_left _ (Nat.le_succ _)
    omega
  have np : ¬ Str.ofString "times" = Str.ofString "plus" := by decide +kernel
  have all := sys_all (P := TB kvs g B) (tb_name hB2) (fun n hn => tb_num hn) (fun a b => tb_plus hB hB2) (fun a b => tb_times hB hB2) (tb_pow (fun _ => c1) (tb_name hB2 _))
    (tb_pow (fun _ => by
      show cm "times" (g "c") (g "s") < 5000
      unfold cm
      rw [if_neg np, if_pos rfl]
      exact c2) (tb_times hB hB2 (tb_name hB2 _) (tb_name hB2 _)))
    (tb_pow (fun _ => by
      show cm "times" (g "c") (cm "plus" (g "s") 1) < 5000
      unfold cm
      rw [if_neg np, if_pos rfl, if_pos rfl]
      exact ht) (tb_times hB hB2 (tb_name hB2 _) (tb_plus hB hB2 (tb_name hB2 _) (tb_num (by decide))))) h
  intro s hs
  obtain ⟨h1, h2⟩ := all s hs
  obtain ⟨_, _, w1, w2⟩ := sys_ok2 h s hs
  have d1 := dep_wt3 s.2.1
  have d2 := dep_wt3 s.2.2
  have n1 : ∀ z ∈ s.2.1.nms, NOk kvs g B z := fun z hz => hN z (nms_in h (mem_nmSys.mpr ⟨s, hs, .inl hz⟩))
  have n2 : ∀ z ∈ s.2.2.nms, NOk kvs g B z := fun z hz => hN z (nms_in h (mem_nmSys.mpr ⟨s, hs, .inr hz⟩))
  exact ⟨⟨(h1 w1 n1).1, by omega, w1⟩, ⟨(h2 w2 n2).1, by omega, w2⟩⟩
/-- a saying of two terms that can be looked at by kvs -/
def LookOk (kvs : List (Key × V)) (s : SyW) : Prop := (s.1 = "same" ∨ s.1 = "under") ∧ TmOk kvs (gOf kvs) s.2.1 ∧ TmOk kvs (gOf kvs) s.2.2 ∧ s.2.1.dep ≤ 39 ∧ s.2.2.dep ≤ 39 ∧ s.2.1.wt ≤ 10000 ∧ s.2.2.wt ≤ 10000
def holdB (kvs : List (Key × V)) (s : SyW) : Bool := if s.1 = "under" then decide (ev (gOf kvs) s.2.1 &&& ev (gOf kvs) s.2.2 = ev (gOf kvs) s.2.1) else decide (ev (gOf kvs) s.2.1 = ev (gOf kvs) s.2.2)
/-! an answer's numbers are natural numbers, none too great -/
theorem low_nm : ∀ j < 14, (∀ c ∈ (nmS "x" j).cps.toList, c < 128) ∧ (∀ c ∈ (nmS "y" j).cps.toList, c < 128) ∧ (∀ c ∈ (nmS "r" j).cps.toList, c < 128) ∧ (∀ c ∈ (nmS "l" j).cps.toList, c < 128) ∧ ∀ c ∈ (nmS "e" j).cps.toList, c < 128 := by decide +kernel
def NE (M : Nat) (p : Key × V) : Prop := ∃ (s : Str) (v : Int), p = kvE s v ∧ 0 ≤ v ∧ v < (M : Int) ∧ Low s
/-- what an answer asks of c -/
structure AnB (m : Nat) (rs : List Rw) (bs ys : List Nat) (ss : List (Nat × List Nat)) (c : Nat) : Prop where
  c1 : 1 ≤ c
  m5 : m ≤ 5
  n14 : rs.length ≤ 14
  sb : bs.sum + 1 ≤ 2 ^ (c - 1)
  bb : ∀ j, bs.getD j 0 < 2 ^ c
  yb : ∀ j, ys.getD j 0 < 2 ^ c
  nl : rs.length + 1 ≤ 2 ^ c
  ce : ∀ t j, cell ss t j + 1 ≤ 2 ^ (c - 1)
  s1 : 1 ≤ ss.length
  sz : c * (ss.length + 1) ≤ 5000
theorem rS_bd {h : Int} {c j : Nat} {ss : List (Nat × List Nat)} (hc : ∀ t, (cell ss t j : Int) ≤ h) : ∀ n, 0 ≤ ((List.range n).map fun t => (cell ss t j : Int) * 2 ^ (c * t)).sum ∧ ((List.range n).map fun t => (cell ss t j : Int) * 2 ^ (c * t)).sum ≤ h * iS c n
  | 0 => by unfold iS; simp
  | n + 1 => by
    obtain ⟨h1, h2⟩ := rS_bd (h := h) (c := c) hc n
    rw [List.range_succ, List.map_append, List.sum_append, iS_succ, Int.mul_add]
    have p : (0 : Int) < 2 ^ (c * n) := Int.pow_pos (by decide)
    have q : (cell ss n j : Int) * 2 ^ (c * n) ≤ h * 2 ^ (c * n) := Int.mul_le_mul_of_nonneg_right (hc n) (Int.le_of_lt p)
    have r : 0 ≤ (cell ss n j : Int) * 2 ^ (c * n) := Int.mul_nonneg (by omega) (Int.le_of_lt p)
    simp only [List.map_cons, List.map_nil, List.sum_cons, List.sum_nil]
    omega
theorem lS_bd {c : Nat} (p : Nat → Bool) : ∀ n, 0 ≤ (((List.range n).filter p).map fun t => (2 : Int) ^ (c * t)).sum ∧ (((List.range n).filter p).map fun t => (2 : Int) ^ (c * t)).sum ≤ iS c n
  | 0 => by unfold iS; simp
  | n + 1 => by
    obtain ⟨h1, h2⟩ := lS_bd (c := c) p n
    rw [List.range_succ, List.filter_append, List.map_append, List.sum_append, iS_succ, filt1]
    have q : (0 : Int) < 2 ^ (c * n) := Int.pow_pos (by decide)
    split
    · simp only [List.map_cons, List.map_nil, List.sum_cons, List.sum_nil]
      omega
    · simp only [List.map_nil, List.sum_nil]
      omega
theorem i_nat {a b : Nat} (h : a ≤ b) : ((2 ^ a : Nat) : Int) ≤ ((2 ^ b : Nat) : Int) := by exact_mod_cast Nat.pow_le_pow_right (by decide) h
section
variable {m c : Nat} {rs : List Rw} {bs ys : List Nat} {ss : List (Nat × List Nat)}
theorem AnB.big (h : AnB m rs bs ys ss c) : (2 : Int) ^ c * 2 ^ (c * ss.length) ≤ ((2 ^ 5000 : Nat) : Int) := by
  rw [← Int.pow_add, pow2_nat]
  refine i_nat ?_
  have := h.sz
  rw [Nat.mul_succ] at this
  omega
theorem AnB.ents (h : AnB m rs bs ys ss c) : ∀ p ∈ ansD m rs bs ys ss c, NE (2 ^ 5000) p := by
  have c1 := h.c1
  have m5 := h.m5
  have n14 := h.n14
  have big := h.big
  obtain ⟨d, hd⟩ : ∃ d, c = d + 1 := ⟨c - 1, by omega⟩
  have e2 : (2 : Int) ^ c = 2 * 2 ^ (c - 1) := by rw [hd, Int.pow_succ, Nat.add_sub_cancel]; omega
  obtain ⟨i0, i1⟩ := iS_bd c1 ss.length
  have h0 : (0 : Int) < 2 ^ (c - 1) := Int.pow_pos (by decide)
  have I1 : (2 : Int) ≤ 2 ^ (c * ss.length) := by
    have h1 : 1 ≤ c * ss.length := Nat.mul_pos c1 h.s1
    have h2 := i_nat h1
    rw [pow2_nat]
    exact h2
  have qb : (2 : Int) ^ c * 2 ≤ 2 ^ c * 2 ^ (c * ss.length) := Int.mul_le_mul_of_nonneg_left I1 (by omega)
  have Ib : (2 : Int) * 2 ^ (c * ss.length) ≤ 2 ^ c * 2 ^ (c * ss.length) := Int.mul_le_mul_of_nonneg_right (by omega) (by omega)
  have hi : (2 : Int) ^ (c - 1) * iS c ss.length < 2 ^ (c - 1) * 2 ^ (c * ss.length) := Int.mul_lt_mul_of_pos_left i1 h0
  have qi : (2 : Int) ^ c * iS c ss.length = 2 * (2 ^ (c - 1) * iS c ss.length) := by rw [e2, Int.mul_assoc]
  have qI : (2 : Int) ^ c * 2 ^ (c * ss.length) = 2 * (2 ^ (c - 1) * 2 ^ (c * ss.length)) := by rw [e2, Int.mul_assoc]
  have hi0 : 0 ≤ (2 : Int) ^ (c - 1) * iS c ss.length := Int.mul_nonneg (by omega) i0
  have m1 : ((2 : Int) ^ (c - 1) - 1) * iS c ss.length = 2 ^ (c - 1) * iS c ss.length - iS c ss.length := by rw [Int.sub_mul, Int.one_mul]
  have mi : iS c ss.length ≤ (2 : Int) ^ (c - 1) * iS c ss.length := by
    have := Int.mul_le_mul_of_nonneg_right (show (1 : Int) ≤ 2 ^ (c - 1) by omega) i0
    omega
  have sb : ((bs.sum : Nat) : Int) + 1 ≤ 2 ^ (c - 1) := by rw [pow2_nat]; have := h.sb; omega
  have nl : ((rs.length : Nat) : Int) + 1 ≤ 2 ^ c := by rw [pow2_nat]; have := h.nl; omega
  have rb : ∀ j, 0 ≤ rS c ss j ∧ rS c ss j ≤ ((2 : Int) ^ (c - 1) - 1) * iS c ss.length := fun j => rS_bd (fun t => by rw [pow2_nat]; have := h.ce t j; omega) _
  have lb : ∀ k, 0 ≤ lS c ss k ∧ lS c ss k ≤ iS c ss.length := fun k => lS_bd _ _
  have cs : ((c : Nat) : Int) < 2 ^ c := by rw [pow2_nat]; have := @Nat.lt_two_pow_self c; omega
  have sn : ((ss.length : Nat) : Int) < 2 ^ (c * ss.length) := by
    have h1 : ss.length ≤ c * ss.length := Nat.le_mul_of_pos_left _ c1
    have h2 := @Nat.lt_two_pow_self ss.length
    have h3 := i_nat h1
    rw [pow2_nat]
    omega
  have s1 := h.s1
  have lows : ∀ z ∈ ["s", "c", "h", "d", "q", "g", "i", "m"].map Str.ofString, Low z := by
    intro z hz
    have : (["s", "c", "h", "d", "q", "g", "i", "m"].map Str.ofString).all (fun z => z.cps.toList.all fun c => decide (c < 128)) = true := by decide +kernel
    intro c hc
    exact of_decide_eq_true (List.all_eq_true.mp (List.all_eq_true.mp this z hz) c hc)
  intro p hp
  unfold ansD at hp
  rcases List.mem_append.mp hp with hp | hp
  · rcases List.mem_append.mp hp with hp | hp
    · rcases List.mem_append.mp hp with hp | hp
      · rcases List.mem_append.mp hp with hp | hp
        · rcases List.mem_append.mp hp with hp | hp
          · obtain ⟨j, hj, rfl⟩ := List.mem_map.mp hp
            have hj := List.mem_range.mp hj
            have := h.bb j
            have e := pow2_nat c
            exact ⟨_, _, rfl, by omega, by omega, (low_nm j (by omega)).1⟩
          · obtain ⟨j, hj, rfl⟩ := List.mem_map.mp hp
            have hj := List.mem_range.mp hj
            have := h.yb j
            have e := pow2_nat c
            exact ⟨_, _, rfl, by omega, by omega, (low_nm j (by omega)).2.1⟩
        · unfold an8 at hp
          simp only [List.mem_cons, List.not_mem_nil, or_false] at hp
          rcases hp with rfl | rfl | rfl | rfl | rfl | rfl | rfl | rfl
          all_goals refine ⟨_, _, rfl, ?_, ?_, lows _ (by simp)⟩ <;> omega
      · obtain ⟨j, hj, rfl⟩ := List.mem_map.mp hp
        have hj := List.mem_range.mp hj
        have := rb j
        exact ⟨_, _, rfl, by omega, by omega, (low_nm j (by omega)).2.2.1⟩
    · obtain ⟨j, hj, rfl⟩ := List.mem_map.mp hp
      have hj := List.mem_range.mp hj
      have := lb j
      exact ⟨_, _, rfl, by omega, by omega, (low_nm j (by omega)).2.2.2.1⟩
  · obtain ⟨j, hj, rfl⟩ := List.mem_map.mp hp
    have hj := asked_lt j hj
    have := rb j
    exact ⟨_, _, rfl, by omega, by omega, (low_nm j (by omega)).2.2.2.2⟩
end
theorem run_bdA {m : Nat} {rs : List Rw} {bs : List Nat} {M : Nat} (hg : Prg m rs) (hl : bs.length = m) (hc : ∀ c ∈ bs, c ≤ 1000) (hM : M ≤ 1000) : SdBd (runL rs M (0, bs)) 100000 := fun s hs => by
  have o := runL_ok hg (SOk.start hg hl hc) s hs
  have b1 := hg.b1
  have b5 := hg.b5
  refine ⟨fun e => ?_, by rw [o.l]; exact b5, fun c h => Nat.le_trans (o.c c h) (by omega)⟩
  have := o.l
  rw [e] at this
  have : (0 : Nat) = m := this
  omega
theorem smN_sum : ∀ l : List Nat, smN l = l.sum
  | [] => rfl
  | x :: l => by
    show x + smN l = _
    rw [List.sum_cons, smN_sum l]
theorem getD_le {l : List Nat} {j M : Nat} (h : ∀ x ∈ l, x ≤ M) : l.getD j 0 ≤ M := by
  rw [List.getD_eq_getElem?_getD]
  cases e : l[j]? with
  | none => exact Nat.zero_le _
  | some x => exact h x (List.mem_of_getElem? e)
/-- what a run that stops brings -/
structure RunB (m : Nat) (rs : List Rw) (bs : List Nat) (ss : List (Nat × List Nat)) : Prop where
  bd : SdBd ss 100000
  ln : ∀ s ∈ ss, s.2.length = m
  hd : ∃ l, ss = (0, bs) :: l
theorem StpOk.runB {m M : Nat} {rs : List Rw} {bs : List Nat} {ss : List (Nat × List Nat)} (ho : StpOk m rs bs ss M) (hM : M ≤ 500) : RunB m rs bs ss := by
  have hsl := ho.sl
  have c1000 : ∀ c ∈ bs, c ≤ 1000 := fun c hc => Nat.le_trans (ho.bd c hc) (by decide)
  have e := ho.st.run (N := 999) (by omega)
  refine ⟨?_, ?_, ho.st.head⟩
  · have := run_bdA (M := 999) ho.pr ho.ln c1000 (by decide)
    rw [e] at this
    exact this
  · intro s hs
    rw [← e] at hs
    exact (runL_ok ho.pr (SOk.start ho.pr ho.ln c1000) s hs).l
theorem cL_bd {m : Nat} {rs : List Rw} {bs : List Nat} {ss : List (Nat × List Nat)} (h : RunB m rs bs ss) (n14 : rs.length ≤ 14) : cL (grt ss) rs.length ≤ 20 := by
  have hg := grt_bd h.bd (by decide)
  have h1 : btsN (grt ss) ≤ 19 := btsN_le (Nat.lt_of_le_of_lt hg (by decide))
  have h2 : btsN rs.length ≤ 4 := btsN_le (Nat.lt_of_le_of_lt n14 (by decide))
  unfold cL
  omega
theorem AnB.of {m M c : Nat} {rs : List Rw} {bs ys : List Nat} {ss pre : List (Nat × List Nat)} {k0 : Nat} (ho : StpOk m rs bs ss M) (hM : M ≤ 100) (hss : ss = pre ++ [(k0, ys)]) (hc : cL (grt ss) rs.length ≤ c) (hc2 : c ≤ cL (grt ss) rs.length + 10) : AnB m rs bs ys ss c := by
  have R := ho.runB (by omega)
  have hsl := ho.sl
  have n14 := ho.pr.len
  have h20 := cL_bd R n14
  have c1 : 1 ≤ c := Nat.le_trans cL_pos hc
  have hno := fun h => Nat.not_lt.mpr hc ((cL_lt (G := grt ss) (n := rs.length) c1).mp h)
  have hG : grt ss < 2 ^ (c - 1) := Nat.lt_of_not_le fun h => hno (.inl h)
  have hn : rs.length < 2 ^ c := Nat.lt_of_not_le fun h => hno (.inr h)
  have hcell : ∀ s ∈ ss, ∀ x ∈ s.2, x ≤ grt ss := fun s hs x hx => by
    refine Nat.le_trans (mxN_le hx) ?_
    unfold grt
    exact mxN_le (List.mem_cons_of_mem _ (List.mem_map.mpr ⟨s, hs, rfl⟩))
  have h12 : 2 ^ (c - 1) ≤ 2 ^ c := Nat.pow_le_pow_right (by decide) (by omega)
  obtain ⟨l, hl⟩ := R.hd
  have hb0 : (0, bs) ∈ ss := by rw [hl]; exact List.mem_cons_self
  have hy0 : (k0, ys) ∈ ss := by rw [hss]; simp
  refine ⟨c1, ho.pr.b5, n14, ?_, fun j => ?_, fun j => ?_, by omega, fun t j => ?_, ?_, ?_⟩
  · have : smN bs ≤ grt ss := by
      unfold grt
      refine mxN_le ?_
      rw [hl]
      exact List.mem_cons_self
    rw [smN_sum] at this
    omega
  · have := getD_le (j := j) (hcell _ hb0)
    have : bs.getD j 0 ≤ grt ss := this
    omega
  · have := getD_le (j := j) (hcell _ hy0)
    have : ys.getD j 0 ≤ grt ss := this
    omega
  · unfold cell
    split
    · rename_i r cs e
      have := getD_le (j := j) (hcell _ (List.mem_of_getElem? e))
      have : cs.getD j 0 ≤ grt ss := this
      omega
    · omega
  · rw [hl]
    exact Nat.le_add_left 1 _
  · have h1 : c * (ss.length + 1) ≤ 30 * 102 := Nat.mul_le_mul (by omega) (by omega)
    omega
/-- a saying that can be looked at -/
def HoldsOk (K : PySem.W.Frag) (H : Hp) (kvs : List (Key × V)) (g : Str → Nat) (v : V) (o : Bool) : Prop := ∃ w l r a b, SayAt K H v w l r ∧ TmAt K H a l ∧ TmAt K H b r ∧ TmOk kvs g a ∧ TmOk kvs g b ∧ a.wt ≤ 10000 ∧ b.wt ≤ 10000 ∧ o = (if w = "under" then decide (ev g a &&& ev g b = ev g a) else decide (ev g a = ev g b))
theorem HoldsOk.sm {K : PySem.W.Frag} {H H' : Hp} {kvs : List (Key × V)} {g : Str → Nat} {v : V} {o : Bool} (h : HoldsOk K H kvs g v o) (e : Sm H H') : HoldsOk K H' kvs g v o := by
  obtain ⟨w, l, r, a, b, h1, h2, h3, h4⟩ := h
  exact ⟨w, l, r, a, b, h1.sm e, h2.sm e, h3.sm e, h4⟩
/-! lists of sayings that can be looked at -/
theorem SyAt.ref {K : PySem.W.Frag} {H : Hp} {v : V} {s : SyW} (h : SyAt K H v s) : ∃ p, v = V.ref p := by
  obtain ⟨l, r, h, _⟩ := h
  obtain ⟨p, _, _, e, _⟩ := h
  exact ⟨p, e⟩
/-! list(a dict): its keys; a number of a dict otherwise -/
theorem w_lstD {H : Hp} {Q : VK} {d : Addr} {kvs : List (Key × V)} (h : H d = some (.dK kvs)) (k : ∀ p H', H p = none → Sm H H' → H' p = some (.lst (kvs.map fun kv => kV kv.1)) → Q (.ref p) H') : rListD [.ref d] H Q := ⟨d, kvs, rfl, h, fun q hq => k q _ hq (sm_new hq) upd_same⟩
/-! numbers put together of figures in a base that is a power of two -/
def dS (c : Nat) (f : Nat → Nat) : Nat → Nat
  | 0 => 0
  | n + 1 => dS c f n + f n * 2 ^ (c * n)
theorem dS_congr {c : Nat} {f g : Nat → Nat} : ∀ {n : Nat}, (∀ t < n, f t = g t) → dS c f n = dS c g n
  | 0, _ => rfl
  | n + 1, h => by
    show dS c f n + f n * 2 ^ (c * n) = dS c g n + g n * 2 ^ (c * n)
    rw [dS_congr fun t ht => h t (Nat.lt_succ_of_lt ht), h n (Nat.lt_succ_self n)]
theorem dS_add (c : Nat) (f g : Nat → Nat) : ∀ n : Nat, dS c f n + dS c g n = dS c (fun t => f t + g t) n
  | 0 => rfl
  | n + 1 => by
    have h := dS_add c f g n
    show dS c f n + f n * 2 ^ (c * n) + (dS c g n + g n * 2 ^ (c * n)) = dS c (fun t => f t + g t) n + (f n + g n) * 2 ^ (c * n)
    rw [← h, Nat.add_mul]
    omega
theorem dS_mul (c k : Nat) (f : Nat → Nat) : ∀ n : Nat, k * dS c f n = dS c (fun t => k * f t) n
  | 0 => rfl
  | n + 1 => by
    have h := dS_mul c k f n
    show k * (dS c f n + f n * 2 ^ (c * n)) = dS c (fun t => k * f t) n + k * f n * 2 ^ (c * n)
    rw [← h, Nat.mul_add, Nat.mul_assoc]
theorem dS_lt {c : Nat} {f : Nat → Nat} : ∀ {n : Nat}, (∀ t < n, f t < 2 ^ c) → dS c f n < 2 ^ (c * n)
  | 0, _ => by show 0 < 2 ^ (c * 0); rw [Nat.mul_zero]; decide
  | n + 1, h => by
    have h1 := dS_lt (n := n) fun t ht => h t (Nat.lt_succ_of_lt ht)
    have h2 : f n + 1 ≤ 2 ^ c := h n (Nat.lt_succ_self n)
    have h3 : (f n + 1) * 2 ^ (c * n) ≤ 2 ^ c * 2 ^ (c * n) := Nat.mul_le_mul_right _ h2
    rw [Nat.mul_succ, Nat.pow_add, Nat.mul_comm (2 ^ (c * n))]
    rw [Nat.add_mul, Nat.one_mul] at h3
    show dS c f n + f n * 2 ^ (c * n) < _
    omega
theorem dS_bit {c : Nat} {f : Nat → Nat} (c1 : 1 ≤ c) (b : Nat) : ∀ {n : Nat}, (∀ t < n, f t < 2 ^ c) → (dS c f n).testBit b = (decide (b / c < n) && (f (b / c)).testBit (b % c))
  | 0, _ => by
    show Nat.testBit 0 b = _
    rw [Nat.zero_testBit]
    simp
  | n + 1, h => by
    have ih := dS_bit c1 b (n := n) fun t ht => h t (Nat.lt_succ_of_lt ht)
    have h1 := dS_lt (n := n) fun t ht => h t (Nat.lt_succ_of_lt ht)
    have e : dS c f (n + 1) = 2 ^ (c * n) * f n + dS c f n := by
      show dS c f n + f n * 2 ^ (c * n) = _
      rw [Nat.mul_comm, Nat.add_comm]
    rw [e, Nat.testBit_two_pow_mul_add _ h1]
    have em := Nat.div_add_mod b c
    by_cases hb : b < c * n
    · have hd : b / c < n := Nat.div_lt_of_lt_mul hb
      rw [if_pos hb, ih, decide_eq_true hd, decide_eq_true (Nat.lt_succ_of_lt hd)]
    · rw [if_neg hb]
      have hd : n ≤ b / c := (Nat.le_div_iff_mul_le (by omega)).mpr (by rw [Nat.mul_comm]; omega)
      rcases Nat.eq_or_lt_of_le hd with hd | hd
      · subst hd
        rw [decide_eq_true (Nat.lt_succ_self _), Bool.true_and]
        congr 1
        omega
      · rw [decide_eq_false (by omega), Bool.false_and]
        refine Nat.testBit_lt_two_pow (Nat.lt_of_lt_of_le (h n (Nat.lt_succ_self n)) (Nat.pow_le_pow_right (by decide) ?_))
        have h5 : c * (n + 1) ≤ c * (b / c) := Nat.mul_le_mul_left c hd
        rw [Nat.mul_succ] at h5
        omega
theorem under_of {a b : Nat} (h : ∀ i, a.testBit i = true → b.testBit i = true) : a &&& b = a := by
  refine Nat.eq_of_testBit_eq fun i => ?_
  rw [Nat.testBit_and]
  cases e : a.testBit i with
  | false => rfl
  | true => rw [h i e]; rfl
theorem under_at {a b : Nat} (h : a &&& b = a) (i : Nat) (e : a.testBit i = true) : b.testBit i = true := by
  rw [← h, Nat.testBit_and] at e
  exact (Bool.and_eq_true_iff.mp e).2
theorem dS_under {c n : Nat} {f g : Nat → Nat} (c1 : 1 ≤ c) (hf : ∀ t < n, f t < 2 ^ c) (hg : ∀ t < n, g t < 2 ^ c) (h : ∀ t < n, f t &&& g t = f t) : dS c f n &&& dS c g n = dS c f n := by
  refine under_of fun i e => ?_
  rw [dS_bit c1 i hf] at e
  rw [dS_bit c1 i hg]
  obtain ⟨e1, e2⟩ := Bool.and_eq_true_iff.mp e
  rw [e1, under_at (h _ (of_decide_eq_true e1)) _ e2]
  rfl
def shF (f : Nat → Nat) : Nat → Nat
  | 0 => 0
  | t + 1 => f t
theorem dS_shift (c : Nat) (f : Nat → Nat) : ∀ n : Nat, 2 ^ c * dS c f n = dS c (shF f) (n + 1)
  | 0 => by
    show 2 ^ c * 0 = 0 + 0 * 2 ^ (c * 0)
    omega
  | n + 1 => by
    have h := dS_shift c f n
    show 2 ^ c * (dS c f n + f n * 2 ^ (c * n)) = dS c (shF f) (n + 1) + f n * 2 ^ (c * (n + 1))
    rw [← h, Nat.mul_add, Nat.mul_succ c n, Nat.pow_add, Nat.mul_comm (2 ^ (c * n)) (2 ^ c), Nat.mul_left_comm]
/-- the last figure being nought -/
theorem dS_shift0 (c : Nat) (f : Nat → Nat) {n : Nat} (h : f n = 0) : 2 ^ c * dS c f (n + 1) = dS c (shF f) (n + 1) := by
  have e : dS c f (n + 1) = dS c f n := by
    show dS c f n + f n * 2 ^ (c * n) = _
    rw [h]
    omega
  rw [e, dS_shift]
theorem dS_split (c u : Nat) (f : Nat → Nat) : ∀ k : Nat, dS c f (u + k) = dS c f u + 2 ^ (c * u) * dS c (fun t => f (u + t)) k
  | 0 => by
    show dS c f u = dS c f u + 2 ^ (c * u) * 0
    omega
  | k + 1 => by
    have h := dS_split c u f k
    show dS c f (u + k) + f (u + k) * 2 ^ (c * (u + k)) = dS c f u + 2 ^ (c * u) * (dS c (fun t => f (u + t)) k + f (u + k) * 2 ^ (c * k))
    rw [h, Nat.mul_add c, Nat.pow_add, Nat.mul_add, Nat.mul_left_comm]
    omega
theorem dS_head (c : Nat) (f : Nat → Nat) : ∀ k : Nat, dS c f (k + 1) = f 0 + 2 ^ c * dS c (fun t => f (t + 1)) k
  | 0 => by
    show 0 + f 0 * 2 ^ (c * 0) = f 0 + 2 ^ c * 0
    rw [Nat.mul_zero, Nat.pow_zero]
    omega
  | k + 1 => by
    have h := dS_head c f k
    show dS c f (k + 1) + f (k + 1) * 2 ^ (c * (k + 1)) = f 0 + 2 ^ c * (dS c (fun t => f (t + 1)) k + f (k + 1) * 2 ^ (c * k))
    rw [h, Nat.mul_succ c k, Nat.pow_add, Nat.mul_add, Nat.mul_comm (2 ^ (c * k)) (2 ^ c), Nat.mul_left_comm (2 ^ c)]
    omega
theorem dS_two {c : Nat} (c2 : 2 ≤ c) {w : Nat → Nat} : ∀ {k : Nat}, (∀ t < k, w t ≤ 2 ^ c + 1) → dS c w k < 2 * 2 ^ (c * k)
  | 0, _ => by show 0 < 2 * 2 ^ (c * 0); rw [Nat.mul_zero]; decide
  | k + 1, h => by
    have h1 := dS_two c2 (k := k) fun t ht => h t (Nat.lt_succ_of_lt ht)
    have h2 := h k (Nat.lt_succ_self k)
    have h3 : w k * 2 ^ (c * k) ≤ (2 ^ c + 1) * 2 ^ (c * k) := Nat.mul_le_mul_right _ h2
    have h4 : 2 ^ 2 ≤ 2 ^ c := Nat.pow_le_pow_right (by decide) c2
    have h5 : (3 + 1) * 2 ^ (c * k) ≤ 2 ^ c * 2 ^ (c * k) := Nat.mul_le_mul_right _ h4
    rw [Nat.mul_succ c k, Nat.pow_add, Nat.mul_comm (2 ^ (c * k)) (2 ^ c)]
    rw [Nat.add_mul] at h3
    show dS c w k + w k * 2 ^ (c * k) < _
    omega
/-- the bit at a figure's begin, of a number with figures up to the base and one more -/
theorem odd_at {c n u : Nat} {w : Nat → Nat} (c2 : 2 ≤ c) (hu : u + 1 < n) (hw : ∀ t < n, w t ≤ 2 ^ c + 1) (h : (w u = 2 ^ c ∧ w (u + 1) % 2 = 0) ∨ (w u + 2 ≤ 2 ^ c ∧ w (u + 1) % 2 = 1)) : (dS c w n).testBit (c * (u + 1)) = true := by
  obtain ⟨k, rfl⟩ : ∃ k, n = (u + 1) + (k + 1) := ⟨n - u - 2, by omega⟩
  have hX := dS_two c2 (w := w) (k := u) fun t ht => hw t (by omega)
  rw [Nat.testBit_eq_decide_div_mod_eq]
  refine decide_eq_true ?_
  have hh : dS c (fun t => w (u + 1 + t)) (k + 1) = w (u + 1) + 2 ^ c * dS c (fun t => w (u + 1 + (t + 1))) k := dS_head c _ k
  rw [dS_split, hh]
  have eu : dS c w (u + 1) = dS c w u + w u * 2 ^ (c * u) := rfl
  have ep : 2 ^ (c * (u + 1)) = 2 ^ c * 2 ^ (c * u) := by rw [Nat.mul_succ, Nat.pow_add, Nat.mul_comm]
  have hp : 0 < 2 ^ (c * u) := Nat.pow_pos (by decide)
  obtain ⟨d, rfl⟩ : ∃ d, c = d + 1 := ⟨c - 1, by omega⟩
  generalize dS (d + 1) (fun t => w (u + 1 + (t + 1))) k = Y
  have ev : (2 ^ (d + 1) * Y) % 2 = 0 := by
    rw [Nat.pow_succ, Nat.mul_assoc, Nat.mul_comm (2 ^ d), Nat.mul_assoc]
    omega
  have h4 : 2 ^ 2 ≤ 2 ^ (d + 1) := Nat.pow_le_pow_right (by decide) c2
  generalize 2 ^ (d + 1) * Y = Z at *
  have hP : 0 < 2 ^ ((d + 1) * (u + 1)) := Nat.pow_pos (by decide)
  rcases h with ⟨h1, h2⟩ | ⟨h1, h2⟩
  · have lo : dS (d + 1) w u < 2 ^ ((d + 1) * (u + 1)) := by
      rw [ep]
      have : 2 * 2 ^ ((d + 1) * u) ≤ 2 ^ (d + 1) * 2 ^ ((d + 1) * u) := Nat.mul_le_mul_right _ (by omega)
      omega
    have e : dS (d + 1) w (u + 1) + 2 ^ ((d + 1) * (u + 1)) * (w (u + 1) + Z) = dS (d + 1) w u + 2 ^ ((d + 1) * (u + 1)) * (1 + (w (u + 1) + Z)) := by
      rw [eu, h1, ← ep, Nat.mul_add _ 1, Nat.mul_one]
      omega
    rw [e, Nat.add_mul_div_left _ _ hP, Nat.div_eq_of_lt lo]
    omega
  · have lo : dS (d + 1) w (u + 1) < 2 ^ ((d + 1) * (u + 1)) := by
      rw [ep, eu]
      have h3 : (w u + 2) * 2 ^ ((d + 1) * u) ≤ 2 ^ (d + 1) * 2 ^ ((d + 1) * u) := Nat.mul_le_mul_right _ h1
      rw [Nat.add_mul] at h3
      omega
    rw [Nat.add_mul_div_left _ _ hP, Nat.div_eq_of_lt lo]
    omega
theorem one_bit {i : Nat} (h : Nat.testBit 1 i = true) : i = 0 := by
  cases i with
  | zero => rfl
  | succ i =>
    rw [Nat.testBit_succ] at h
    have e : (1 : Nat) / 2 = 0 := rfl
    rw [e, Nat.zero_testBit] at h
    cases h
/-- figures of noughts and ones: where its bits stand -/
theorem ind_bit {c n b : Nat} {f : Nat → Nat} (c1 : 1 ≤ c) (hf : ∀ t < n, f t ≤ 1) (h : (dS c f n).testBit b = true) : ∃ t < n, f t = 1 ∧ b = c * t := by
  have hp : 1 < 2 ^ c := Nat.one_lt_two_pow (by omega)
  rw [dS_bit c1 b fun t ht => Nat.lt_of_le_of_lt (hf t ht) hp] at h
  obtain ⟨e1, e2⟩ := Bool.and_eq_true_iff.mp h
  have e1 := of_decide_eq_true e1
  have h1 := hf _ e1
  rcases Nat.eq_or_lt_of_le h1 with q | q
  · rw [q] at e2
    have := one_bit e2
    have em := Nat.div_add_mod b c
    exact ⟨_, e1, q, by omega⟩
  · have q : f (b / c) = 0 := by omega
    rw [q, Nat.zero_testBit] at e2
    cases e2
theorem geo (c : Nat) : ∀ n : Nat, 2 ^ c * dS c (fun _ => 1) n + 1 = 2 ^ (c * n) + dS c (fun _ => 1) n
  | 0 => by
    show 2 ^ c * 0 + 1 = 2 ^ (c * 0) + 0
    rw [Nat.mul_zero, Nat.mul_zero, Nat.pow_zero]
  | n + 1 => by
    have h := geo c n
    show 2 ^ c * (dS c (fun _ => 1) n + 1 * 2 ^ (c * n)) + 1 = 2 ^ (c * (n + 1)) + (dS c (fun _ => 1) n + 1 * 2 ^ (c * n))
    rw [Nat.mul_add, Nat.mul_succ c n, Nat.pow_add, Nat.one_mul, Nat.mul_comm (2 ^ (c * n)) (2 ^ c)]
    omega
/-- a box from time to time -/
theorem box_eq {c : Nat} {r up dn : Nat → Nat} : ∀ {n : Nat}, (∀ t < n, r (t + 1) + dn t = r t + up t) → 2 ^ c * (dS c r n + dS c up n) + r 0 = dS c r n + 2 ^ c * dS c dn n + 2 ^ (c * n) * r n
  | 0, _ => by
    show 2 ^ c * (0 + 0) + r 0 = 0 + 2 ^ c * 0 + 2 ^ (c * 0) * r 0
    rw [Nat.mul_zero c, Nat.pow_zero]
    omega
  | n + 1, h => by
    have ih := box_eq (c := c) (n := n) fun t ht => h t (Nat.lt_succ_of_lt ht)
    have hn := h n (Nat.lt_succ_self n)
    show 2 ^ c * (dS c r n + r n * 2 ^ (c * n) + (dS c up n + up n * 2 ^ (c * n))) + r 0 = dS c r n + r n * 2 ^ (c * n) + 2 ^ c * (dS c dn n + dn n * 2 ^ (c * n)) + 2 ^ (c * (n + 1)) * r (n + 1)
    have e1 : 2 ^ (c * (n + 1)) * r (n + 1) = 2 ^ c * (r (n + 1) * 2 ^ (c * n)) := by
      rw [Nat.mul_succ c n, Nat.pow_add, Nat.mul_comm (2 ^ (c * n)) (2 ^ c), Nat.mul_assoc, Nat.mul_comm (2 ^ (c * n)) (r (n + 1))]
    have e2 : r (n + 1) * 2 ^ (c * n) + dn n * 2 ^ (c * n) = r n * 2 ^ (c * n) + up n * 2 ^ (c * n) := by rw [← Nat.add_mul, ← Nat.add_mul, hn]
    have e3 := congrArg (2 ^ c * ·) e2
    have e3 : 2 ^ c * (r (n + 1) * 2 ^ (c * n) + dn n * 2 ^ (c * n)) = 2 ^ c * (r n * 2 ^ (c * n) + up n * 2 ^ (c * n)) := e3
    rw [e1]
    rw [Nat.mul_add] at ih e3
    rw [Nat.mul_add (2 ^ c) (r n * 2 ^ (c * n))] at e3
    rw [Nat.mul_add (2 ^ c), Nat.mul_add (2 ^ c), Nat.mul_add (2 ^ c), Nat.mul_add (2 ^ c) (dS c dn n)]
    rw [Nat.mul_comm (2 ^ (c * n)) (r n)] at ih
    omega
/-! the numbers of a run keep all sayings of its program -/
def holdG (g : Str → Nat) (s : SyW) : Bool := if s.1 = "under" then decide (ev g s.2.1 &&& ev g s.2.2 = ev g s.2.1) else decide (ev g s.2.1 = ev g s.2.2)
theorem evP (g : Str → Nat) (a b : Tm) : ev g (.op "plus" a b) = ev g a + ev g b := by
  show cm "plus" (ev g a) (ev g b) = _
  unfold cm
  rw [if_pos rfl]
theorem evT (g : Str → Nat) (a b : Tm) : ev g (.op "times" a b) = ev g a * ev g b := by
  show cm "times" (ev g a) (ev g b) = _
  unfold cm
  rw [if_neg (by decide +kernel), if_pos rfl]
theorem evW (g : Str → Nat) (a b : Tm) : ev g (.op "power" a b) = ev g a ^ ev g b := by
  show cm "power" (ev g a) (ev g b) = _
  unfold cm
  rw [if_neg (by decide +kernel), if_neg (by decide +kernel)]
theorem evN (g : Str → Nat) (z : Str) : ev g (.name z) = g z := rfl
theorem evI (g : Str → Nat) (n : Nat) : ev g (.num n) = n := rfl
theorem ev_fold (g : Str → Nat) : ∀ (l : List Tm) (a : Tm), ev g (l.foldl (fun a b => .op "plus" a b) a) = ev g a + (l.map (ev g)).sum
  | [], a => by simp
  | x :: l, a => by
    show ev g (l.foldl (fun a b => .op "plus" a b) (.op "plus" a x)) = _
    rw [ev_fold g l, evP, List.map_cons, List.sum_cons]
    omega
theorem ev_sumT (g : Str → Nat) : ∀ l : List Tm, ev g (sumT l) = (l.map (ev g)).sum
  | [] => rfl
  | x :: l => by
    show ev g (l.foldl (fun a b => .op "plus" a b) x) = _
    rw [ev_fold, List.map_cons, List.sum_cons]
theorem ev_lsT (g : Str → Nat) (ks : List Nat) : ev g (sumT (lsT ks)) = (ks.map fun k => g (nmS "l" k)).sum := by
  rw [ev_sumT]
  unfold lsT
  rw [List.map_map]
  rfl
theorem h_same {g : Str → Nat} {a b : Tm} (h : ev g a = ev g b) : holdG g (same a b) = true := by
  unfold holdG same
  rw [if_neg (show ¬ Str.ofString "same" = "under" by decide +kernel)]
  exact decide_eq_true h
theorem h_undr {g : Str → Nat} {a b : Tm} (h : ev g a &&& ev g b = ev g a) : holdG g (undr a b) = true := by
  unfold holdG undr
  rw [if_pos rfl]
  exact decide_eq_true h
/-- one step, box by box -/
def StepA (rs : List Rw) (k : Nat) (x : Nat → Nat) (k' : Nat) (x' : Nat → Nat) : Prop := match rs[k]? with
  | some (.up j) => k' = k + 1 ∧ x' j = x j + 1 ∧ ∀ i, i ≠ j → x' i = x i
  | some (.dn j) => k' = k + 1 ∧ x j = x' j + 1 ∧ ∀ i, i ≠ j → x' i = x i
  | some (.br j g) => k' = (if x j = 0 then g else k + 1) ∧ ∀ i, x' i = x i
  | some (.go g) => k' = g ∧ ∀ i, x' i = x i
  | some .st => False
  | none => False
/-- a run by times: rows, contents -/
structure Tr (m : Nat) (rs : List Rw) (c n : Nat) (a : Nat → Nat) (r : Nat → Nat → Nat) : Prop where
  c1 : 1 ≤ c
  a0 : a 0 = 0
  al : ∀ t < n + 1, a t < rs.length
  rb : ∀ t < n + 1, ∀ j < m, r t j + 1 ≤ 2 ^ (c - 1)
  nl : rs.length + 1 ≤ 2 ^ c
  st : ∀ t, t < n → StepA rs (a t) (r t) (a (t + 1)) (r (t + 1))
  fin : rs[a n]? = some .st
def indA (a : Nat → Nat) (k t : Nat) : Nat := if a t = k then 1 else 0
/-- the numbers of a run -/
structure Nums (g : Str → Nat) (m : Nat) (rs : List Rw) (c n : Nat) (a : Nat → Nat) (r : Nat → Nat → Nat) : Prop where
  vx : ∀ j < m, g (nmS "x" j) = r 0 j
  vy : ∀ j < m, g (nmS "y" j) = r n j
  vs : g "s" = n
  vc : g "c" = c
  vh : g "h" = 2 ^ (c - 1)
  vd : ((List.range m).map fun j => r 0 j).sum + 1 + g "d" = 2 ^ (c - 1)
  vq : g "q" = 2 ^ c
  vg : rs.length + 1 + g "g" = 2 ^ c
  vi : g "i" = dS c (fun _ => 1) (n + 1)
  vm : g "m" = dS c (fun _ => 2 ^ (c - 1) - 1) (n + 1)
  vr : ∀ j < m, g (nmS "r" j) = dS c (fun t => r t j) (n + 1)
  vl : ∀ k < rs.length, g (nmS "l" k) = dS c (indA a k) (n + 1)
  ve : ∀ j ∈ asked m rs, g (nmS "e" j) + 2 * dS c (fun t => r t j) (n + 1) = 2 ^ c * dS c (fun _ => 1) (n + 1)
theorem ind_sum (a : Nat → Nat) (t : Nat) : ∀ ks : List Nat, ks.Nodup → (ks.map fun k => indA a k t).sum = if a t ∈ ks then 1 else 0
  | [], _ => by simp
  | k :: ks, h => by
    obtain ⟨h1, h2⟩ := List.nodup_cons.mp h
    rw [List.map_cons, List.sum_cons, ind_sum a t ks h2]
    unfold indA
    by_cases e : a t = k
    · rw [if_pos e, if_neg (by rw [e]; exact h1), if_pos (by rw [e]; exact List.mem_cons_self)]
    · rw [if_neg e, Nat.zero_add]
      by_cases e2 : a t ∈ ks
      · rw [if_pos e2, if_pos (List.mem_cons_of_mem _ e2)]
      · rw [if_neg e2, if_neg (fun q => (List.mem_cons.mp q).elim e e2)]
theorem dS_list (c n : Nat) (F : Nat → Nat → Nat) : ∀ ks : List Nat, (ks.map fun k => dS c (F k) n).sum = dS c (fun t => (ks.map fun k => F k t).sum) n
  | [] => by
    have z : ∀ n, dS c (fun _ => 0) n = 0 := by
      intro n
      induction n with
      | zero => rfl
      | succ n ih => show dS c (fun _ => 0) n + 0 * _ = 0; rw [ih]; omega
    show 0 = dS c (fun t => (([] : List Nat).map fun k => F k t).sum) n
    exact (z n).symm
  | k :: ks => by
    rw [List.map_cons, List.sum_cons, dS_list c n F ks, dS_add]
    refine dS_congr fun t _ => ?_
    rw [List.map_cons, List.sum_cons]
section
variable {m c n : Nat} {rs : List Rw} {a : Nat → Nat} {r : Nat → Nat → Nat} {g : Str → Nat}
theorem Nums.lsum (N : Nums g m rs c n a r) {ks : List Nat} (hk : ∀ k ∈ ks, k < rs.length) (nd : ks.Nodup) : ev g (sumT (lsT ks)) = dS c (fun t => if a t ∈ ks then 1 else 0) (n + 1) := by
  rw [ev_lsT]
  have e : (ks.map fun k => g (nmS "l" k)) = ks.map fun k => dS c (indA a k) (n + 1) := List.map_congr_left fun k h => N.vl k (hk k h)
  rw [e, dS_list c (n + 1) (indA a)]
  exact dS_congr fun t _ => ind_sum a t ks nd
theorem pow_half {c : Nat} (h : 1 ≤ c) : 2 ^ c = 2 * 2 ^ (c - 1) := by
  obtain ⟨d, rfl⟩ : ∃ d, c = d + 1 := ⟨c - 1, by omega⟩
  rw [Nat.pow_succ, Nat.add_sub_cancel, Nat.mul_comm]
theorem Tr.p2 (T : Tr m rs c n a r) : 1 < 2 ^ c := Nat.one_lt_two_pow (by have := T.c1; omega)
theorem ind_le (a : Nat → Nat) (k t : Nat) : indA a k t ≤ 1 := by
  unfold indA
  split <;> omega
theorem and_mask {x d : Nat} (h : x < 2 ^ d) : x &&& (2 ^ d - 1) = x := by
  rw [Nat.and_two_pow_sub_one_eq_mod, Nat.mod_eq_of_lt h]
/-- what a row leads to stands in the figures -/
theorem Tr.move (T : Tr m rs c n a r) {k : Nat} {f : Nat → Nat} (hk : rs[k]? ≠ some .st) (hf : ∀ t < n + 1, f t < 2 ^ c) (h : ∀ t < n, a t = k → f (t + 1) = 1) : 2 ^ c * dS c (indA a k) (n + 1) &&& dS c f (n + 1) = 2 ^ c * dS c (indA a k) (n + 1) := by
  have z : indA a k n = 0 := if_neg fun e => hk (by rw [← e]; exact T.fin)
  rw [dS_shift0 c _ z]
  refine dS_under T.c1 (fun t _ => ?_) hf (fun t ht => ?_)
  · cases t with
    | zero => exact Nat.pow_pos (by decide)
    | succ t => exact Nat.lt_of_le_of_lt (ind_le a k t) T.p2
  · cases t with
    | zero => exact Nat.zero_and _
    | succ t =>
      show indA a k t &&& f (t + 1) = indA a k t
      unfold indA
      by_cases e : a t = k
      · rw [if_pos e, h t (by omega) e]
        exact Nat.and_self 1
      · rw [if_neg e, Nat.zero_and]
theorem Tr.rlt (T : Tr m rs c n a r) {t j : Nat} (ht : t < n + 1) (hj : j < m) : r t j < 2 ^ c := by
  have h1 := T.rb t ht j hj
  have h2 := pow_half T.c1
  omega
theorem Tr.nst (T : Tr m rs c n a r) {t : Nat} (ht : t < n) : rs[a t]? ≠ some .st := fun e => by
  have h := T.st t ht
  unfold StepA at h
  rw [e] at h
  exact h
theorem nd_filter {p : Nat → Bool} (k : Nat) : ((List.range k).filter p).Nodup := (List.nodup_range (n := k)).filter p
theorem sysA_base (T : Tr m rs c n a r) (N : Nums g m rs c n a r) : ∀ s ∈ baseS m rs.length, holdG g s = true := by
  intro s hs
  have hc := T.c1
  have hp := pow_half hc
  have hn : 2 ^ (g "c" * (g "s" + 1)) = 2 ^ (c * (n + 1)) := by rw [N.vc, N.vs]
  have hgeo := geo c (n + 1)
  have e1 : ev g (sumT ((List.range m).map fun j => Tm.name (nmS "x" j))) = ((List.range m).map fun j => r 0 j).sum := by
    rw [ev_sumT, List.map_map]
    congr 1
    exact List.map_congr_left fun j hj => N.vx j (List.mem_range.mp hj)
  unfold baseS at hs
  simp only [List.mem_cons, List.not_mem_nil, or_false] at hs
  rcases hs with rfl | rfl | rfl | rfl | rfl | rfl
  · refine h_same ?_
    rw [evP, evP, e1, evN, evN, evI, N.vh, N.vd]
  · refine h_same ?_
    rw [evT, evN, evN, evI, N.vq, N.vh, hp]
  · refine h_same ?_
    rw [evW, evN, evN, evI, N.vq, N.vc]
  · refine h_same ?_
    rw [evP, evN, evN, evI, N.vq, N.vg]
  · refine h_same ?_
    unfold topT pwAt
    rw [evP, evP, evT, evW, evT, evP, evN, evN, evN, evN, evI, evI, hn, N.vq, N.vi, hgeo]
  · refine h_same ?_
    rw [evP, evT, evN, evN, evN, N.vm, N.vi, N.vh, dS_add, dS_mul]
    refine dS_congr fun t _ => ?_
    have := Nat.pow_pos (n := c - 1) (show 0 < 2 by decide)
    omega
theorem sysA_time (hg : Prg m rs) (T : Tr m rs c n a r) (N : Nums g m rs c n a r) : ∀ s ∈ timeS m rs, holdG g s = true := by
  intro s hs
  have hc := T.c1
  have hp := pow_half hc
  have p2 := T.p2
  have hpos := Nat.pow_pos (n := c - 1) (show 0 < 2 by decide)
  unfold timeS at hs
  rcases List.mem_append.mp hs with hs | hs
  · rcases List.mem_append.mp hs with hs | hs
    · rcases List.mem_append.mp hs with hs | hs
      · rcases List.mem_append.mp hs with hs | hs
        · rcases List.mem_append.mp hs with hs | hs
          · obtain ⟨j, hj, rfl⟩ := List.mem_map.mp hs
            have hj := List.mem_range.mp hj
            refine h_undr ?_
            rw [evN, evN, N.vr j hj, N.vm]
            refine dS_under hc (fun t ht => T.rlt ht hj) (fun t _ => by omega) (fun t ht => and_mask ?_)
            have := T.rb t ht j hj
            omega
          · obtain ⟨k, hk, rfl⟩ := List.mem_map.mp hs
            have hk := List.mem_range.mp hk
            refine h_undr ?_
            rw [evN, evN, N.vl k hk, N.vi]
            refine dS_under hc (fun t _ => Nat.lt_of_le_of_lt (ind_le a k t) p2) (fun t _ => p2) (fun t _ => ?_)
            unfold indA
            split <;> decide
        · rw [List.mem_singleton.mp hs]
          refine h_same ?_
          rw [N.lsum (fun k hk => List.mem_range.mp hk) List.nodup_range, evN, N.vi]
          exact dS_congr fun t ht => if_pos (List.mem_range.mpr (T.al t ht))
      · rw [List.mem_singleton.mp hs]
        refine h_undr ?_
        rw [evI, evN, N.vl 0 (by have := T.al 0 (by omega); omega)]
        refine under_of fun i e => ?_
        rw [one_bit e, dS_bit hc 0 fun t _ => Nat.lt_of_le_of_lt (ind_le a 0 t) p2]
        rw [Nat.zero_div, Nat.zero_mod]
        have e0 : indA a 0 0 = 1 := if_pos T.a0
        rw [e0, decide_eq_true (Nat.succ_pos n)]
        rfl
    · rw [List.mem_singleton.mp hs]
      refine h_same ?_
      unfold pwAt
      rw [N.lsum (ks := stpK rs rs.length) (fun k hk => List.mem_range.mp (List.mem_filter.mp hk).1) (nd_filter _), evW, evT, evI, evN, evN, N.vc, N.vs]
      have mem : ∀ t, a t ∈ stpK rs rs.length ↔ rs[a t]? = some .st := fun t => by
        unfold stpK
        rw [List.mem_filter, List.mem_range]
        exact ⟨fun h => of_decide_eq_true h.2, fun h => ⟨(List.getElem?_eq_some_iff.mp h).1, decide_eq_true h⟩⟩
      have z : ∀ k, k ≤ n → dS c (fun t => if a t ∈ stpK rs rs.length then 1 else 0) k = 0 := by
        intro k
        induction k with
        | zero => exact fun _ => rfl
        | succ k ih =>
          intro hk
          show dS c _ k + (if a k ∈ stpK rs rs.length then 1 else 0) * 2 ^ (c * k) = 0
          rw [ih (by omega), if_neg fun q => T.nst (by omega) ((mem k).mp q)]
          omega
      show dS c _ n + (if a n ∈ stpK rs rs.length then 1 else 0) * 2 ^ (c * n) = _
      rw [z n (Nat.le_refl _), if_pos ((mem n).mpr T.fin)]
      omega
  · obtain ⟨j, hj, rfl⟩ := List.mem_map.mp hs
    refine h_same ?_
    rw [evP, evT, evT, evN, evN, evN, evN, evI, N.vr j (asked_lt j hj), N.vq, N.vi]
    exact N.ve j hj
theorem sysA_row (hg : Prg m rs) (T : Tr m rs c n a r) (N : Nums g m rs c n a r) {k : Nat} (hk : k < rs.length) : ∀ s ∈ rowS rs k, holdG g s = true := by
  intro s hs
  have hc := T.c1
  have hp := pow_half hc
  have p2 := T.p2
  have hrk := List.getElem?_eq_getElem hk
  have hok := hg.ok rs[k] (List.getElem_mem hk)
  have il : ∀ k', ∀ t < n + 1, indA a k' t < 2 ^ c := fun k' t _ => Nat.lt_of_le_of_lt (ind_le a k' t) p2
  have onward : ¬ rs[k].ends → k + 1 < rs.length := fun h => by
    obtain ⟨us, r0, e, he⟩ := hg.fin
    apply Classical.byContradiction
    intro q
    have e2 : rs.length = us.length + 1 := by rw [e, List.length_append]; rfl
    have e3 : rs[k]? = some r0 := by
      rw [e, show k = us.length by omega, List.getElem?_append_right (Nat.le_refl _), Nat.sub_self]
      rfl
    rw [hrk] at e3
    exact h (by rw [Option.some.inj e3]; exact he)
  have one : ∀ {k'}, k' < rs.length → rs[k]? ≠ some .st → (∀ t < n, a t = k → a (t + 1) = k') → holdG g (undr (.op "times" (.name "q") (.name (nmS "l" k))) (.name (nmS "l" k'))) = true := fun {k'} hk' ns h => by
    refine h_undr ?_
    rw [evT, evN, evN, evN, N.vq, N.vl k hk, N.vl k' hk']
    exact T.move ns (il k') fun t ht e => if_pos (h t ht e)
  unfold rowS at hs
  cases e : rs[k] with
  | st =>
    rw [hrk, e] at hs
    cases hs
  | go gl =>
    rw [hrk, e] at hs
    rw [e] at hok
    rw [List.mem_singleton.mp hs]
    refine one hok (by rw [hrk, e]; intro q; cases q) fun t ht et => ?_
    have h := T.st t ht
    unfold StepA at h
    rw [et, hrk, e] at h
    exact h.1
  | up j =>
    rw [hrk, e] at hs
    have ho := onward (by rw [e]; exact fun q => q)
    rw [List.mem_singleton.mp hs]
    refine one ho (by rw [hrk, e]; intro q; cases q) fun t ht et => ?_
    have h := T.st t ht
    unfold StepA at h
    rw [et, hrk, e] at h
    exact h.1
  | dn j =>
    rw [hrk, e] at hs
    have ho := onward (by rw [e]; exact fun q => q)
    rw [List.mem_singleton.mp hs]
    refine one ho (by rw [hrk, e]; intro q; cases q) fun t ht et => ?_
    have h := T.st t ht
    unfold StepA at h
    rw [et, hrk, e] at h
    exact h.1
  | br j gl =>
    rw [hrk, e] at hs
    rw [e] at hok
    have ho := onward (by rw [e]; exact fun q => q)
    have ns : rs[k]? ≠ some .st := by rw [hrk, e]; intro q; cases q
    have step : ∀ t < n, a t = k → a (t + 1) = (if r t j = 0 then gl else k + 1) := fun t ht et => by
      have h := T.st t ht
      unfold StepA at h
      rw [et, hrk, e] at h
      exact h.1
    simp only at hs
    by_cases hgk : gl = k + 1
    · rw [if_pos hgk] at hs
      rw [List.mem_singleton.mp hs]
      refine one ho ns fun t ht et => ?_
      rw [step t ht et, hgk]
      split <;> rfl
    · rw [if_neg hgk] at hs
      rcases List.mem_cons.mp hs with rfl | hs
      · refine h_undr ?_
        rw [evT, evP, evN, evN, evN, evN, N.vq, N.vl k hk, N.vl gl hok.2, N.vl (k + 1) ho, dS_add]
        have le1 : ∀ t, indA a gl t + indA a (k + 1) t ≤ 1 := fun t => by
          unfold indA
          by_cases q : a t = gl
          · rw [if_pos q, if_neg (by omega)]
            decide
          · rw [if_neg q]
            split <;> decide
        refine T.move ns (fun t _ => Nat.lt_of_le_of_lt (le1 t) p2) fun t ht et => ?_
        have h := step t ht et
        have h1 := le1 (t + 1)
        have h2 : 1 ≤ indA a gl (t + 1) + indA a (k + 1) (t + 1) := by
          split at h
          · have : indA a gl (t + 1) = 1 := if_pos h
            omega
          · have : indA a (k + 1) (t + 1) = 1 := if_pos h
            omega
        omega
      · rw [List.mem_singleton.mp hs]
        have c2 : 2 ≤ c := by
          have := T.nl
          apply Classical.byContradiction
          intro q
          have : c = 1 := by omega
          subst this
          have : (2 : Nat) ^ 1 = 2 := rfl
          omega
        have hja : j ∈ asked m rs := by
          unfold asked
          refine List.mem_filter.mpr ⟨List.mem_range.mpr hok.1, ?_⟩
          unfold askB
          refine List.any_eq_true.mpr ⟨k, List.mem_range.mpr hk, ?_⟩
          unfold isAsk
          rw [hrk, e]
          simp [hgk]
        have hE : g (nmS "e" j) = dS c (fun t => 2 ^ c - 2 * r t j) (n + 1) := by
          have h1 := N.ve j hja
          have h2 : dS c (fun t => 2 ^ c - 2 * r t j) (n + 1) + 2 * dS c (fun t => r t j) (n + 1) = 2 ^ c * dS c (fun _ => 1) (n + 1) := by
            rw [dS_mul, dS_mul, dS_add]
            refine dS_congr fun t ht => ?_
            have := T.rb t ht j hok.1
            omega
          omega
        refine h_undr ?_
        rw [evT, evP, evN, evN, evN, evN, N.vq, N.vl k hk, N.vl (k + 1) ho, hE, dS_add]
        have z : indA a k n = 0 := if_neg fun q => ns (by rw [← q]; exact T.fin)
        rw [dS_shift0 c _ z]
        refine under_of fun i hi => ?_
        have sh1 : ∀ t < n + 1, shF (indA a k) t ≤ 1 := fun t _ => by
          cases t with
          | zero => exact Nat.zero_le _
          | succ t => exact ind_le a k t
        obtain ⟨u, hu, e1, rfl⟩ := ind_bit hc sh1 hi
        cases u with
        | zero => cases e1
        | succ t =>
          have et : a t = k := by
            apply Classical.byContradiction
            intro q
            have : shF (indA a k) (t + 1) = 0 := if_neg q
            omega
          have hs1 := step t (by omega) et
          have r1 := T.rb t (by omega) j hok.1
          have r2 := T.rb (t + 1) hu j hok.1
          have hk0 : indA a (k + 1) t = 0 := if_neg (by omega)
          refine odd_at c2 (by omega) (fun t' ht' => ?_) ?_
          · have := ind_le a (k + 1) t'
            show indA a (k + 1) t' + (2 ^ c - 2 * r t' j) ≤ 2 ^ c + 1
            omega
          · show (indA a (k + 1) t + (2 ^ c - 2 * r t j) = 2 ^ c ∧ (indA a (k + 1) (t + 1) + (2 ^ c - 2 * r (t + 1) j)) % 2 = 0) ∨ (indA a (k + 1) t + (2 ^ c - 2 * r t j) + 2 ≤ 2 ^ c ∧ (indA a (k + 1) (t + 1) + (2 ^ c - 2 * r (t + 1) j)) % 2 = 1)
            by_cases q : r t j = 0
            · rw [if_pos q] at hs1
              have : indA a (k + 1) (t + 1) = 0 := if_neg (by omega)
              left
              omega
            · rw [if_neg q] at hs1
              have : indA a (k + 1) (t + 1) = 1 := if_pos hs1
              right
              omega
theorem sysA_box (T : Tr m rs c n a r) (N : Nums g m rs c n a r) {j : Nat} (hj : j < m) : holdG g (boxS rs j) = true := by
  have mem : ∀ q t, a t ∈ plc rs q rs.length ↔ rs[a t]? = some q := fun q t => by
    unfold plc
    rw [List.mem_filter, List.mem_range]
    exact ⟨fun h => of_decide_eq_true h.2, fun h => ⟨(List.getElem?_eq_some_iff.mp h).1, decide_eq_true h⟩⟩
  have hx : r 0 j = r 0 j := rfl
  -- by times, the last one twice
  let r' : Nat → Nat := fun t => if t ≤ n then r t j else r n j
  have hr' : ∀ t < n + 1, r' t = r t j := fun t ht => if_pos (by omega)
  have hb := box_eq (c := c) (r := r') (up := fun t => if a t ∈ plc rs (.up j) rs.length then 1 else 0) (dn := fun t => if a t ∈ plc rs (.dn j) rs.length then 1 else 0) (n := n + 1) (by
    intro t ht
    by_cases hl : t = n
    · subst hl
      have e1 : r' (t + 1) = r t j := if_neg (by omega)
      have e2 : r' t = r t j := if_pos (Nat.le_refl _)
      have f := T.fin
      rw [e1, e2, if_neg fun q => ?_, if_neg fun q => ?_]
      · have := (mem _ t).mp q
        rw [f] at this
        cases this
      · have := (mem _ t).mp q
        rw [f] at this
        cases this
    · have e1 : r' (t + 1) = r (t + 1) j := if_pos (by omega)
      have e2 : r' t = r t j := if_pos (by omega)
      rw [e1, e2]
      have h := T.st t (by omega)
      have hat := List.getElem?_eq_getElem (T.al t ht)
      unfold StepA at h
      rw [hat] at h
      have m1 := mem (.up j) t
      have m2 := mem (.dn j) t
      rw [hat] at m1 m2
      cases e : rs[a t]'(T.al t ht) with
      | st => rw [e] at h; exact h.elim
      | go gl =>
        rw [e] at h m1 m2
        rw [if_neg fun q => (by have := m2.mp q; cases this), if_neg fun q => (by have := m1.mp q; cases this), h.2 j]
      | br j' gl =>
        rw [e] at h m1 m2
        rw [if_neg fun q => (by have := m2.mp q; cases this), if_neg fun q => (by have := m1.mp q; cases this), h.2 j]
      | up j' =>
        rw [e] at h m1 m2
        obtain ⟨_, h2, h3⟩ := h
        rw [if_neg fun q => (by have := m2.mp q; cases this)]
        by_cases q : j' = j
        · subst q
          rw [if_pos (m1.mpr rfl), h2]
        · rw [if_neg fun z => q (by have := m1.mp z; cases this; rfl), h3 j (fun z => q z.symm)]
      | dn j' =>
        rw [e] at h m1 m2
        obtain ⟨_, h2, h3⟩ := h
        rw [if_neg (c := a t ∈ plc rs (.up j) rs.length) fun q => (by have := m1.mp q; cases this)]
        by_cases q : j' = j
        · subst q
          rw [if_pos (m2.mpr rfl), h2]
        · rw [if_neg fun z => q (by have := m2.mp z; cases this; rfl), h3 j (fun z => q z.symm)])
  have e0 : r' 0 = r 0 j := if_pos (Nat.zero_le _)
  have e1 : r' (n + 1) = r n j := if_neg (by omega)
  have e2 : dS c r' (n + 1) = dS c (fun t => r t j) (n + 1) := dS_congr hr'
  rw [e0, e1, e2] at hb
  refine h_same ?_
  unfold topT pwAt
  have sub : ∀ q, ∀ k ∈ plc rs q rs.length, k < rs.length := fun q k hk => List.mem_range.mp (List.mem_filter.mp hk).1
  rw [evP, evT, evP, evP, evP, evT, evT, evW, evT, evP, N.lsum (ks := plc rs (.up j) rs.length) (sub _) (nd_filter _), N.lsum (ks := plc rs (.dn j) rs.length) (sub _) (nd_filter _), evN, evN, evN, evN, evN, evN, evI, evI, N.vq, N.vr j hj, N.vx j hj, N.vy j hj, N.vc, N.vs]
  exact hb
theorem sys_hold (hg : Prg m rs) (T : Tr m rs c n a r) (N : Nums g m rs c n a r) : ∀ s ∈ sysOf m rs, holdG g s = true := by
  intro s hs
  unfold sysOf at hs
  rcases List.mem_append.mp hs with hs | hs
  · rcases List.mem_append.mp hs with hs | hs
    · rcases List.mem_append.mp hs with hs | hs
      · exact sysA_base T N s hs
      · exact sysA_time hg T N s hs
    · unfold rowsS at hs
      obtain ⟨l, hl, hsl⟩ := List.mem_flatten.mp hs
      obtain ⟨k, hk, rfl⟩ := List.mem_map.mp hl
      exact sysA_row hg T N (List.mem_range.mp hk) s hsl
  · obtain ⟨j, hj, rfl⟩ := List.mem_map.mp hs
    exact sysA_box T N (List.mem_range.mp hj)
end
/-! an answer's numbers are those of its run -/
theorem merge_nd : ∀ (L a : List (Key × V)), ((a ++ L).map (·.1)).Nodup → mergeK a L = a ++ L
  | [], a, _ => (List.append_nil a).symm
  | (k, v) :: L, a, h => by
    have hk : ¬ (a.any fun p => decide (p.1 = k)) = true := fun q => by
      obtain ⟨p, hp, e⟩ := List.any_eq_true.mp q
      have e := of_decide_eq_true e
      rw [List.map_append] at h
      exact (List.nodup_append.mp h).2.2 p.1 (List.mem_map.mpr ⟨p, hp, rfl⟩) k (List.mem_map.mpr ⟨(k, v), List.mem_cons_self, rfl⟩) e
    have e : putK a k v = a ++ [(k, v)] := by
      unfold putK
      rw [if_neg hk]
    show mergeK (putK a k v) L = _
    rw [e, merge_nd L (a ++ [(k, v)]) (by rw [List.append_assoc]; exact h), List.append_assoc]
    rfl
def rowT (ss : List (Nat × List Nat)) (t : Nat) : Nat := match ss[t]? with
  | some (k, _) => k
  | none => 0
section
variable {m c : Nat} {rs : List Rw} {bs ys : List Nat} {ss : List (Nat × List Nat)}
theorem ans_keys : (ansD m rs bs ys ss c).map (·.1) = (namesL m rs.length (asked m rs)).map Sum.inr := by
  unfold ansD anX anY anR anL anE namesL nm8 an8
  simp only [List.map_append, List.map_map, List.map_cons, List.map_nil]
  rfl
theorem ans_nd (hg : Prg m rs) : ((ansD m rs bs ys ss c).map (·.1)).Nodup := by
  rw [ans_keys]
  rw [List.Nodup, List.pairwise_map]
  exact (names_nodup hg).imp fun h e => h (Sum.inr.inj e)
theorem ans_merge (hg : Prg m rs) : mergeK [] (ansD m rs bs ys ss c) = ansD m rs bs ys ss c := merge_nd _ [] (ans_nd hg)
theorem ans_g (hg : Prg m rs) {z : Str} {v : Int} (h : kvE z v ∈ ansD m rs bs ys ss c) : gOf (mergeK [] (ansD m rs bs ys ss c)) z = v.toNat := by
  rw [ans_merge hg]
  unfold gOf
  rw [show valV (ansD m rs bs ys ss c) (.inr z) = some (.int v) from valV_nd (ans_nd hg) h]
theorem iS_dS (c : Nat) : ∀ n, iS c n = ((dS c (fun _ => 1) n : Nat) : Int)
  | 0 => rfl
  | n + 1 => by
    rw [iS_succ, iS_dS c n, pow2_nat]
    show ((dS c (fun _ => 1) n : Nat) : Int) + _ = ((dS c (fun _ => 1) n + 1 * 2 ^ (c * n) : Nat) : Int)
    omega
theorem rS_dS (c j : Nat) (ss : List (Nat × List Nat)) : rS c ss j = ((dS c (fun t => cell ss t j) ss.length : Nat) : Int) := by
  unfold rS
  generalize ss.length = n
  induction n with
  | zero => rfl
  | succ n ih =>
    rw [List.range_succ, List.map_append, List.sum_append, ih]
    show _ = ((dS c (fun t => cell ss t j) n + cell ss n j * 2 ^ (c * n) : Nat) : Int)
    rw [Int.natCast_add, Int.natCast_mul, ← pow2_nat]
    simp
theorem lS_dS (c k : Nat) (ss : List (Nat × List Nat)) : lS c ss k = ((dS c (indA (rowT ss) k) ss.length : Nat) : Int) := by
  unfold lS
  have h : ∀ n, n ≤ ss.length → (((List.range n).filter (atR ss k)).map fun t => (2 : Int) ^ (c * t)).sum = ((dS c (indA (rowT ss) k) n : Nat) : Int) := by
    intro n
    induction n with
    | zero => exact fun _ => rfl
    | succ n ih =>
      intro hn
      rw [List.range_succ, List.filter_append, List.map_append, List.sum_append, ih (by omega), filt1]
      have e : ss[n]? = some ss[n] := List.getElem?_eq_getElem (by omega)
      have e1 : atR ss k n = decide (rowT ss n = k) := by
        unfold atR rowT
        rw [e]
      have e2 : indA (rowT ss) k n = if rowT ss n = k then 1 else 0 := rfl
      show _ = ((dS c (indA (rowT ss) k) n + indA (rowT ss) k n * 2 ^ (c * n) : Nat) : Int)
      rw [e1, e2]
      by_cases q : rowT ss n = k
      · rw [if_pos q, if_pos (decide_eq_true q), Nat.one_mul, Int.natCast_add, ← pow2_nat]
        simp
      · rw [if_neg q, if_neg (by rw [decide_eq_false q]; exact Bool.false_ne_true), Nat.zero_mul]
        simp
  exact h _ (Nat.le_refl _)
theorem getD_set {l : List Nat} {i j v : Nat} (h : j < l.length) : (l.set j v).getD i 0 = if i = j then v else l.getD i 0 := by
  rw [List.getD_eq_getElem?_getD, List.getElem?_set, List.getD_eq_getElem?_getD]
  by_cases e : j = i
  · subst e
    rw [if_pos rfl, if_pos h, if_pos rfl]
    rfl
  · rw [if_neg e, if_neg (fun q => e q.symm)]
theorem step_aft (hg : Prg m rs) {k k' : Nat} {cs cs' : List Nat} (hl : cs.length = m) (h : aftr rs k cs = some (k', cs')) : StepA rs k (fun j => cs.getD j 0) k' (fun j => cs'.getD j 0) := by
  unfold StepA
  unfold aftr at h
  cases e : rs[k]? with
  | none => rw [e] at h; cases h
  | some q =>
    have ok := hg.ok q (List.mem_of_getElem? e)
    rw [e] at h
    cases q with
    | st => cases h
    | go gl => cases h; exact ⟨rfl, fun _ => rfl⟩
    | br j gl => cases h; exact ⟨rfl, fun _ => rfl⟩
    | up j =>
      have ok : j < m := ok
      cases h
      refine ⟨rfl, ?_, fun i hi => ?_⟩
      · show (cs.set j _).getD j 0 = _
        rw [getD_set (by omega), if_pos rfl]
      · show (cs.set j _).getD i 0 = _
        rw [getD_set (by omega), if_neg hi]
    | dn j =>
      have ok : j < m := ok
      simp only at h
      by_cases z : cs.getD j 0 = 0
      · rw [if_pos z] at h; cases h
      · rw [if_neg z] at h
        cases h
        refine ⟨rfl, ?_, fun i hi => ?_⟩
        · show cs.getD j 0 = (cs.set j _).getD j 0 + 1
          rw [getD_set (by omega), if_pos rfl]
          omega
        · show (cs.set j _).getD i 0 = _
          rw [getD_set (by omega), if_neg hi]
theorem range_getD : ∀ l : List Nat, ((List.range l.length).map fun j => l.getD j 0).sum = l.sum
  | [] => rfl
  | x :: l => by
    rw [List.length_cons, List.range_succ_eq_map, List.map_cons, List.sum_cons, List.map_map, List.sum_cons]
    have h := range_getD l
    have e : ((fun j => (x :: l).getD j 0) ∘ Nat.succ) = fun j => l.getD j 0 := rfl
    rw [e, h]
    rfl
theorem run_tr {M k0 : Nat} {pre : List (Nat × List Nat)} (ho : StpOk m rs bs ss M) (hA : AnB m rs bs ys ss c) (hss : ss = pre ++ [(k0, ys)]) : Tr m rs c (ss.length - 1) (rowT ss) (fun t j => cell ss t j) := by
  have hg := ho.pr
  have s1 := hA.s1
  have hl : ss.length = pre.length + 1 := by rw [hss, List.length_append]; rfl
  have hrun := ho.st.run (N := ss.length) (by omega)
  have hok : ∀ s ∈ ss, s.1 < rs.length ∧ s.2.length = m := fun s hs => by
    rw [← hrun] at hs
    have := runL_ok hg (SOk.start hg ho.ln ho.bd) s hs
    exact ⟨this.k, this.l⟩
  have at_ : ∀ t, t < ss.length → ∃ k cs, ss[t]? = some (k, cs) ∧ rowT ss t = k ∧ (∀ j, cell ss t j = cs.getD j 0) ∧ k < rs.length ∧ cs.length = m := fun t ht => by
    obtain ⟨⟨k, cs⟩, e⟩ : ∃ s, ss[t]? = some s := ⟨_, List.getElem?_eq_getElem ht⟩
    have hm := hok _ (List.mem_of_getElem? e)
    refine ⟨k, cs, e, ?_, fun j => ?_, hm.1, hm.2⟩
    · unfold rowT; rw [e]
    · unfold cell; rw [e]
  refine ⟨hA.c1, ?_, fun t ht => ?_, fun t ht j hj => hA.ce t j, hA.nl, fun t ht => ?_, ?_⟩
  · obtain ⟨l, e⟩ := ho.st.head
    unfold rowT
    rw [e]
    rfl
  · obtain ⟨k, cs, _, e, _, h, _⟩ := at_ t (by omega)
    rw [e]
    exact h
  · obtain ⟨k, cs, e, e1, e2, h1, h2⟩ := at_ t (by omega)
    obtain ⟨k', cs', e', e1', e2', h1', h2'⟩ := at_ (t + 1) (by omega)
    have hn := runL_next (rs := rs) (n := ss.length) (s := (0, bs)) (i := t) (u := (k, cs)) (v := (k', cs')) (by rw [hrun]; exact e) (by rw [hrun]; exact e')
    have h := step_aft hg h2 hn
    show StepA rs (rowT ss t) (fun j => cell ss t j) (rowT ss (t + 1)) (fun j => cell ss (t + 1) j)
    rw [e1, e1', show (fun j => cell ss t j) = fun j => cs.getD j 0 from funext e2, show (fun j => cell ss (t + 1) j) = fun j => cs'.getD j 0 from funext e2']
    exact h
  · have e : ss[ss.length - 1]? = some (k0, ys) := by
      rw [hl, Nat.add_sub_cancel]
      rw [hss, List.getElem?_append_right (Nat.le_refl _), Nat.sub_self]
      rfl
    have e1 : rowT ss (ss.length - 1) = k0 := by unfold rowT; rw [e]
    obtain ⟨pre', last, h1, h2, _⟩ := ho.st.ex
    rw [hss] at h1
    have := (List.append_inj' h1 rfl).2
    cases this
    rw [e1]
    exact h2
theorem run_nums {M k0 : Nat} {pre : List (Nat × List Nat)} (ho : StpOk m rs bs ss M) (hA : AnB m rs bs ys ss c) (hss : ss = pre ++ [(k0, ys)]) : Nums (gOf (mergeK [] (ansD m rs bs ys ss c))) m rs c (ss.length - 1) (rowT ss) (fun t j => cell ss t j) := by
  have hg := ho.pr
  have s1 := hA.s1
  have hn : ss.length - 1 + 1 = ss.length := by omega
  have hl : ss.length = pre.length + 1 := by rw [hss, List.length_append]; rfl
  have c0 : ∀ j, cell ss 0 j = bs.getD j 0 := fun j => by
    obtain ⟨l, e⟩ := ho.st.head
    unfold cell
    rw [e]
    rfl
  have cn : ∀ j, cell ss (ss.length - 1) j = ys.getD j 0 := fun j => by
    have e : ss[ss.length - 1]? = some (k0, ys) := by
      rw [hl, Nat.add_sub_cancel]
      rw [hss, List.getElem?_append_right (Nat.le_refl _), Nat.sub_self]
      rfl
    unfold cell
    rw [e]
  have in1 : ∀ {q}, q ∈ anX m bs → q ∈ ansD m rs bs ys ss c := fun h => List.mem_append_left _ (List.mem_append_left _ (List.mem_append_left _ (List.mem_append_left _ (List.mem_append_left _ h))))
  have in2 : ∀ {q}, q ∈ anY m ys → q ∈ ansD m rs bs ys ss c := fun h => List.mem_append_left _ (List.mem_append_left _ (List.mem_append_left _ (List.mem_append_left _ (List.mem_append_right _ h))))
  have in3 : ∀ {q}, q ∈ an8 c ss.length rs.length bs.sum → q ∈ ansD m rs bs ys ss c := fun h => List.mem_append_left _ (List.mem_append_left _ (List.mem_append_left _ (List.mem_append_right _ h)))
  have in4 : ∀ {q}, q ∈ anR m c ss → q ∈ ansD m rs bs ys ss c := fun h => List.mem_append_left _ (List.mem_append_left _ (List.mem_append_right _ h))
  have in5 : ∀ {q}, q ∈ anL rs.length c ss → q ∈ ansD m rs bs ys ss c := fun h => List.mem_append_left _ (List.mem_append_right _ h)
  have in6 : ∀ {q}, q ∈ anE m c rs ss → q ∈ ansD m rs bs ys ss c := fun h => List.mem_append_right _ h
  have p1 : (2 : Int) ^ (c - 1) = ((2 ^ (c - 1) : Nat) : Int) := pow2_nat _
  have p2 : (2 : Int) ^ c = ((2 ^ c : Nat) : Int) := pow2_nat _
  have hsb := hA.sb
  have hnl := hA.nl
  have hpos := Nat.pow_pos (n := c - 1) (show 0 < 2 by decide)
  have e8 : ∀ {q}, q ∈ [kvE "s" ((ss.length : Int) - 1), kvE "c" (c : Nat), kvE "h" (2 ^ (c - 1)), kvE "d" (2 ^ (c - 1) - (bs.sum : Nat) - 1), kvE "q" (2 ^ c), kvE "g" (2 ^ c - (rs.length : Nat) - 1), kvE "i" (iS c ss.length), kvE "m" ((2 ^ (c - 1) - 1) * iS c ss.length)] → q ∈ ansD m rs bs ys ss c := fun h => in3 h
  refine ⟨fun j hj => ?_, fun j hj => ?_, ?_, ?_, ?_, ?_, ?_, ?_, ?_, ?_, fun j hj => ?_, fun k hk => ?_, fun j hj => ?_⟩
  · rw [ans_g hg (in1 (List.mem_map.mpr ⟨j, List.mem_range.mpr hj, rfl⟩)), Int.toNat_natCast]
    exact (c0 j).symm
  · rw [ans_g hg (in2 (List.mem_map.mpr ⟨j, List.mem_range.mpr hj, rfl⟩)), Int.toNat_natCast]
    exact (cn j).symm
  · rw [ans_g hg (e8 (show kvE "s" ((ss.length : Int) - 1) ∈ _ by simp))]
    omega
  · rw [ans_g hg (e8 (show kvE "c" (c : Nat) ∈ _ by simp)), Int.toNat_natCast]
  · rw [ans_g hg (e8 (show kvE "h" (2 ^ (c - 1)) ∈ _ by simp)), p1]
    omega
  · rw [ans_g hg (e8 (show kvE "d" (2 ^ (c - 1) - (bs.sum : Nat) - 1) ∈ _ by simp)), p1]
    have e : ((List.range m).map fun j => cell ss 0 j).sum = bs.sum := by
      rw [← range_getD bs, ho.ln]
      congr 1
      exact List.map_congr_left fun j _ => c0 j
    rw [e]
    omega
  · rw [ans_g hg (e8 (show kvE "q" (2 ^ c) ∈ _ by simp)), p2]
    omega
  · rw [ans_g hg (e8 (show kvE "g" (2 ^ c - (rs.length : Nat) - 1) ∈ _ by simp)), p2]
    omega
  · rw [ans_g hg (e8 (show kvE "i" (iS c ss.length) ∈ _ by simp)), iS_dS, Int.toNat_natCast, hn]
  · rw [ans_g hg (e8 (show kvE "m" ((2 ^ (c - 1) - 1) * iS c ss.length) ∈ _ by simp)), iS_dS, p1]
    rw [show ((2 ^ (c - 1) : Nat) : Int) - 1 = ((2 ^ (c - 1) - 1 : Nat) : Int) by omega, ← Int.natCast_mul, Int.toNat_natCast, hn, dS_mul]
    exact dS_congr fun t _ => Nat.mul_one _
  · rw [ans_g hg (in4 (List.mem_map.mpr ⟨j, List.mem_range.mpr hj, rfl⟩)), rS_dS, Int.toNat_natCast, hn]
  · rw [ans_g hg (in5 (List.mem_map.mpr ⟨k, List.mem_range.mpr hk, rfl⟩)), lS_dS, Int.toNat_natCast, hn]
  · have hm : kvE (nmS "e" j) (2 ^ c * iS c ss.length - 2 * rS c ss j) ∈ ansD m rs bs ys ss c := in6 (List.mem_map.mpr ⟨j, hj, rfl⟩)
    obtain ⟨s', v', e', v0, _⟩ := hA.ents _ hm
    have ev : v' = 2 ^ c * iS c ss.length - 2 * rS c ss j := by
      unfold kvE at e'
      injection e' with _ e2
      injection e2 with e2
      exact e2.symm
    rw [ans_g hg hm, hn]
    rw [ev] at v0
    rw [p2, iS_dS, rS_dS, ← Int.natCast_mul] at v0 ⊢
    omega
theorem run_hold {M k0 : Nat} {pre : List (Nat × List Nat)} (ho : StpOk m rs bs ss M) (hA : AnB m rs bs ys ss c) (hss : ss = pre ++ [(k0, ys)]) : ∀ s ∈ sysOf m rs, holdB (mergeK [] (ansD m rs bs ys ss c)) s = true :=
  sys_hold ho.pr (run_tr ho hA hss) (run_nums ho hA hss)
end
/-! numbers of which all sayings hold are those of a run -/
theorem dS_dig {c : Nat} (x : Nat) : ∀ N, dS c (fun t => x / 2 ^ (c * t) % 2 ^ c) N = x % 2 ^ (c * N)
  | 0 => by
    show 0 = x % 2 ^ (c * 0)
    rw [Nat.mul_zero, Nat.pow_zero, Nat.mod_one]
  | N + 1 => by
    have h := dS_dig (c := c) x N
    show dS c _ N + x / 2 ^ (c * N) % 2 ^ c * 2 ^ (c * N) = _
    rw [h, Nat.mul_succ, Nat.pow_add, Nat.mod_mul, Nat.mul_comm (x / 2 ^ (c * N) % 2 ^ c)]
theorem dig_dS {c N t : Nat} {f : Nat → Nat} (hf : ∀ t < N, f t < 2 ^ c) (ht : t < N) : dS c f N / 2 ^ (c * t) % 2 ^ c = f t := by
  obtain ⟨k, rfl⟩ : ∃ k, N = t + (k + 1) := ⟨N - t - 1, by omega⟩
  have lo := dS_lt (c := c) (f := f) (n := t) fun u hu => hf u (by omega)
  have hp : 0 < 2 ^ (c * t) := Nat.pow_pos (by decide)
  have hh : dS c (fun u => f (t + u)) (k + 1) = f t + 2 ^ c * dS c (fun u => f (t + (u + 1))) k := dS_head c _ k
  rw [dS_split, hh, Nat.add_mul_div_left _ _ hp, Nat.div_eq_of_lt lo, Nat.zero_add, Nat.add_mul_mod_self_left, Nat.mod_eq_of_lt (hf t ht)]
theorem dS_inj {c N : Nat} {f f' : Nat → Nat} (hf : ∀ t < N, f t < 2 ^ c) (hf' : ∀ t < N, f' t < 2 ^ c) (h : dS c f N = dS c f' N) : ∀ t < N, f t = f' t := fun t ht => by
  rw [← dig_dS hf ht, h, dig_dS hf' ht]
theorem dig_and (c t a b : Nat) : (a &&& b) / 2 ^ (c * t) % 2 ^ c = (a / 2 ^ (c * t) % 2 ^ c) &&& (b / 2 ^ (c * t) % 2 ^ c) := by
  rw [Nat.and_div_two_pow, Nat.and_mod_two_pow]
theorem and_le_of {a b : Nat} (h : a &&& b = a) : a ≤ b := by
  rw [← h]
  exact Nat.and_le_right
theorem sum01 {f : Nat → Nat} : ∀ {ks : List Nat}, ks.Nodup → (∀ k ∈ ks, f k ≤ 1) → (ks.map f).sum = 1 → ∃ k0 ∈ ks, f k0 = 1 ∧ ∀ k ∈ ks, k ≠ k0 → f k = 0
  | [], _, _, h => by cases h
  | k :: ks, nd, hf, h => by
    obtain ⟨n1, n2⟩ := List.nodup_cons.mp nd
    rw [List.map_cons, List.sum_cons] at h
    have h1 := hf k List.mem_cons_self
    by_cases e : f k = 1
    · have z : (ks.map f).sum = 0 := by omega
      refine ⟨k, List.mem_cons_self, e, fun k' hk' ne => ?_⟩
      rcases List.mem_cons.mp hk' with q | q
      · exact absurd q ne
      · have : ∀ l : List Nat, (l.map f).sum = 0 → ∀ x ∈ l, f x = 0 := by
          intro l
          induction l with
          | nil => exact fun _ x hx => by cases hx
          | cons y l ih =>
            intro hs x hx
            rw [List.map_cons, List.sum_cons] at hs
            rcases List.mem_cons.mp hx with rfl | hx
            · omega
            · exact ih (by omega) x hx
        exact this ks z k' q
    · obtain ⟨k0, m0, e0, u0⟩ := sum01 n2 (fun k' hk' => hf k' (List.mem_cons_of_mem _ hk')) (by omega)
      refine ⟨k0, List.mem_cons_of_mem _ m0, e0, fun k' hk' ne => ?_⟩
      rcases List.mem_cons.mp hk' with rfl | q
      · omega
      · exact u0 k' q ne
theorem un_same {g : Str → Nat} {a b : Tm} (h : holdG g (same a b) = true) : ev g a = ev g b := by
  unfold holdG same at h
  rw [if_neg (show ¬ Str.ofString "same" = "under" by decide +kernel)] at h
  exact of_decide_eq_true h
theorem un_undr {g : Str → Nat} {a b : Tm} (h : holdG g (undr a b) = true) : ev g a &&& ev g b = ev g a := by
  unfold holdG undr at h
  rw [if_pos rfl] at h
  exact of_decide_eq_true h
/-- the bit at a figure's begin, told -/
theorem odd_val {c n u : Nat} {w : Nat → Nat} (c2 : 2 ≤ c) (hu : u + 1 < n) (hw : ∀ t < n, w t ≤ 2 ^ c + 1) (h : w u = 2 ^ c ∨ w u + 2 ≤ 2 ^ c) : (dS c w n).testBit (c * (u + 1)) = decide ((w (u + 1) + if w u = 2 ^ c then 1 else 0) % 2 = 1) := by
  obtain ⟨k, rfl⟩ : ∃ k, n = (u + 1) + (k + 1) := ⟨n - u - 2, by omega⟩
  have hX := dS_two c2 (w := w) (k := u) fun t ht => hw t (by omega)
  rw [Nat.testBit_eq_decide_div_mod_eq]
  refine decide_eq_decide.mpr ?_
  have hh : dS c (fun t => w (u + 1 + t)) (k + 1) = w (u + 1) + 2 ^ c * dS c (fun t => w (u + 1 + (t + 1))) k := dS_head c _ k
  rw [dS_split, hh]
  have eu : dS c w (u + 1) = dS c w u + w u * 2 ^ (c * u) := rfl
  have ep : 2 ^ (c * (u + 1)) = 2 ^ c * 2 ^ (c * u) := by rw [Nat.mul_succ, Nat.pow_add, Nat.mul_comm]
  have hp : 0 < 2 ^ (c * u) := Nat.pow_pos (by decide)
  obtain ⟨d, rfl⟩ : ∃ d, c = d + 1 := ⟨c - 1, by omega⟩
  generalize dS (d + 1) (fun t => w (u + 1 + (t + 1))) k = Y
  have ev : (2 ^ (d + 1) * Y) % 2 = 0 := by
    rw [Nat.pow_succ, Nat.mul_assoc, Nat.mul_comm (2 ^ d), Nat.mul_assoc]
    omega
  have h4 : 2 ^ 2 ≤ 2 ^ (d + 1) := Nat.pow_le_pow_right (by decide) c2
  generalize 2 ^ (d + 1) * Y = Z at *
  have hP : 0 < 2 ^ ((d + 1) * (u + 1)) := Nat.pow_pos (by decide)
  rcases h with h1 | h1
  · have lo : dS (d + 1) w u < 2 ^ ((d + 1) * (u + 1)) := by
      rw [ep]
      have : 2 * 2 ^ ((d + 1) * u) ≤ 2 ^ (d + 1) * 2 ^ ((d + 1) * u) := Nat.mul_le_mul_right _ (by omega)
      omega
    have e : dS (d + 1) w (u + 1) + 2 ^ ((d + 1) * (u + 1)) * (w (u + 1) + Z) = dS (d + 1) w u + 2 ^ ((d + 1) * (u + 1)) * (1 + (w (u + 1) + Z)) := by
      rw [eu, h1, ← ep, Nat.mul_add _ 1, Nat.mul_one]
      omega
    rw [e, Nat.add_mul_div_left _ _ hP, Nat.div_eq_of_lt lo, if_pos h1]
    omega
  · have lo : dS (d + 1) w (u + 1) < 2 ^ ((d + 1) * (u + 1)) := by
      rw [ep, eu]
      have h3 : (w u + 2) * 2 ^ ((d + 1) * u) ≤ 2 ^ (d + 1) * 2 ^ ((d + 1) * u) := Nat.mul_le_mul_right _ h1
      rw [Nat.add_mul] at h3
      omega
    rw [Nat.add_mul_div_left _ _ hP, Nat.div_eq_of_lt lo, if_neg (by omega)]
    omega
theorem lsum_of {rs : List Rw} {c n : Nat} {a : Nat → Nat} {g : Str → Nat} (vl : ∀ k < rs.length, g (nmS "l" k) = dS c (indA a k) (n + 1)) {ks : List Nat} (hk : ∀ k ∈ ks, k < rs.length) (nd : ks.Nodup) : ev g (sumT (lsT ks)) = dS c (fun t => if a t ∈ ks then 1 else 0) (n + 1) := by
  rw [ev_lsT]
  have e : (ks.map fun k => g (nmS "l" k)) = ks.map fun k => dS c (indA a k) (n + 1) := List.map_congr_left fun k h => vl k (hk k h)
  rw [e, dS_list c (n + 1) (indA a)]
  exact dS_congr fun t _ => ind_sum a t ks nd
theorem sum_le1 {f : Nat → Nat} : ∀ {ks : List Nat}, (∀ k ∈ ks, f k ≤ 1) → (ks.map f).sum ≤ ks.length
  | [], _ => Nat.le_refl _
  | k :: ks, h => by
    have h1 := h k List.mem_cons_self
    have h2 := sum_le1 (ks := ks) fun x hx => h x (List.mem_cons_of_mem _ hx)
    rw [List.map_cons, List.sum_cons, List.length_cons]
    omega
section
variable {m : Nat} {rs : List Rw} {g : Str → Nat}
theorem sys_back (hg : Prg m rs) (H : ∀ s ∈ sysOf m rs, holdG g s = true) : ∃ a r, Tr m rs (g "c") (g "s") a r ∧ Nums g m rs (g "c") (g "s") a r := by
  have hb : ∀ {s}, s ∈ baseS m rs.length → holdG g s = true := fun h => H _ (List.mem_append_left _ (List.mem_append_left _ (List.mem_append_left _ h)))
  have ht : ∀ {s}, s ∈ timeS m rs → holdG g s = true := fun h => H _ (List.mem_append_left _ (List.mem_append_left _ (List.mem_append_right _ h)))
  have hr : ∀ {k s}, k < rs.length → s ∈ rowS rs k → holdG g s = true := fun hk h => H _ (List.mem_append_left _ (List.mem_append_right _ (List.mem_flatten.mpr ⟨_, List.mem_map.mpr ⟨_, List.mem_range.mpr hk, rfl⟩, h⟩)))
  have hx : ∀ {j}, j < m → holdG g (boxS rs j) = true := fun hj => H _ (List.mem_append_right _ (List.mem_map.mpr ⟨_, List.mem_range.mpr hj, rfl⟩))
  -- the base
  have b1 := un_same (hb (s := same (.name "h") (.op "plus" (.op "plus" (sumT ((List.range m).map fun j => .name (nmS "x" j))) (.num 1)) (.name "d"))) (by unfold baseS; simp))
  have b2 := un_same (hb (s := same (.name "q") (.op "times" (.num 2) (.name "h"))) (by unfold baseS; simp))
  have b3 := un_same (hb (s := same (.name "q") (.op "power" (.num 2) (.name "c"))) (by unfold baseS; simp))
  have b4 := un_same (hb (s := same (.name "q") (.op "plus" (.num (rs.length + 1)) (.name "g"))) (by unfold baseS; simp))
  have b5 := un_same (hb (s := same (.op "plus" (.op "times" (.name "q") (.name "i")) (.num 1)) (.op "plus" topT (.name "i"))) (by unfold baseS; simp))
  have b6 := un_same (hb (s := same (.op "plus" (.name "m") (.name "i")) (.op "times" (.name "h") (.name "i"))) (by unfold baseS; simp))
  unfold topT pwAt at b5
  have sx : ev g (sumT ((List.range m).map fun j => Tm.name (nmS "x" j))) = ((List.range m).map fun j => g (nmS "x" j)).sum := by
    rw [ev_sumT, List.map_map]
    rfl
  rw [evP, evP, sx, evN, evN, evI] at b1
  rw [evT, evN, evN, evI] at b2
  rw [evW, evN, evN, evI] at b3
  rw [evP, evN, evN, evI] at b4
  rw [evP, evP, evT, evW, evT, evP, evN, evN, evN, evN, evI, evI] at b5
  rw [evP, evT, evN, evN, evN] at b6
  obtain ⟨c, ec⟩ : ∃ c, c = g "c" := ⟨_, rfl⟩
  obtain ⟨n, en⟩ : ∃ n, n = g "s" := ⟨_, rfl⟩
  rw [← ec] at b3 b5
  rw [← en] at b5
  rw [← ec, ← en]
  have c1 : 1 ≤ c := by
    rcases Nat.eq_zero_or_pos c with e | e
    · rw [e, Nat.pow_zero] at b3
      omega
    · exact e
  have hp := pow_half c1
  have hh : g "h" = 2 ^ (c - 1) := by omega
  have p2 : 1 < 2 ^ c := Nat.one_lt_two_pow (by omega)
  have hpos := Nat.pow_pos (n := c - 1) (show 0 < 2 by decide)
  have hi : g "i" = dS c (fun _ => 1) (n + 1) := by
    have ge := geo c (n + 1)
    rw [b3] at b5
    obtain ⟨Q, hQ⟩ : ∃ Q, 2 ^ c = Q + 1 := ⟨2 ^ c - 1, by omega⟩
    rw [hQ, Nat.add_mul, Nat.one_mul] at b5 ge
    have e : Q * g "i" = Q * dS c (fun _ => 1) (n + 1) := by omega
    exact Nat.eq_of_mul_eq_mul_left (show 0 < Q by omega) e
  have hm : g "m" = dS c (fun _ => 2 ^ (c - 1) - 1) (n + 1) := by
    have e : dS c (fun _ => 2 ^ (c - 1) - 1) (n + 1) + dS c (fun _ => 1) (n + 1) = 2 ^ (c - 1) * dS c (fun _ => 1) (n + 1) := by
      rw [dS_add, dS_mul]
      refine dS_congr fun t _ => ?_
      omega
    rw [hi, hh] at b6
    omega
  -- boxes' figures
  have hR : ∀ j < m, ∃ f : Nat → Nat, (∀ t < n + 1, f t + 1 ≤ 2 ^ (c - 1)) ∧ g (nmS "r" j) = dS c f (n + 1) := fun j hj => by
    have h := un_undr (ht (s := undr (.name (nmS "r" j)) (.name "m")) (by
      unfold timeS
      exact List.mem_append_left _ (List.mem_append_left _ (List.mem_append_left _ (List.mem_append_left _ (List.mem_append_left _ (List.mem_map.mpr ⟨j, List.mem_range.mpr hj, rfl⟩)))))))
    rw [evN, evN, hm] at h
    have lt : g (nmS "r" j) < 2 ^ (c * (n + 1)) := Nat.lt_of_le_of_lt (and_le_of h) (dS_lt fun t _ => by omega)
    refine ⟨fun t => g (nmS "r" j) / 2 ^ (c * t) % 2 ^ c, fun t htn => ?_, by rw [dS_dig, Nat.mod_eq_of_lt lt]⟩
    have e := dig_and c t (g (nmS "r" j)) (dS c (fun _ => 2 ^ (c - 1) - 1) (n + 1))
    rw [h, dig_dS (fun t _ => by omega) htn] at e
    have := and_le_of e.symm
    show g (nmS "r" j) / 2 ^ (c * t) % 2 ^ c + 1 ≤ _
    omega
  obtain ⟨r, hr0, hr1⟩ : ∃ r : Nat → Nat → Nat, (∀ t j, ¬ j < m → r t j = 0) ∧ ∀ j < m, (∀ t < n + 1, r t j + 1 ≤ 2 ^ (c - 1)) ∧ g (nmS "r" j) = dS c (fun t => r t j) (n + 1) := by
    refine ⟨fun t j => if j < m then g (nmS "r" j) / 2 ^ (c * t) % 2 ^ c else 0, fun t j h => if_neg h, fun j hj => ?_⟩
    obtain ⟨f, f1, f2⟩ := hR j hj
    have e : ∀ t < n + 1, g (nmS "r" j) / 2 ^ (c * t) % 2 ^ c = f t := fun t htn => by rw [f2, dig_dS (fun t h => by have := f1 t h; omega) htn]
    refine ⟨fun t h => ?_, ?_⟩
    · show (if j < m then g (nmS "r" j) / 2 ^ (c * t) % 2 ^ c else 0) + 1 ≤ _
      rw [if_pos hj, e t h]
      exact f1 t h
    · rw [f2]
      refine dS_congr fun t h => ?_
      show f t = if j < m then g (nmS "r" j) / 2 ^ (c * t) % 2 ^ c else 0
      rw [if_pos hj]
      exact (e t h).symm
  -- rows' figures
  have hL : ∀ k < rs.length, ∃ f : Nat → Nat, (∀ t < n + 1, f t ≤ 1) ∧ g (nmS "l" k) = dS c f (n + 1) := fun k hk => by
    have h := un_undr (ht (s := undr (.name (nmS "l" k)) (.name "i")) (by
      unfold timeS
      exact List.mem_append_left _ (List.mem_append_left _ (List.mem_append_left _ (List.mem_append_left _ (List.mem_append_right _ (List.mem_map.mpr ⟨k, List.mem_range.mpr hk, rfl⟩)))))))
    rw [evN, evN, hi] at h
    have lt : g (nmS "l" k) < 2 ^ (c * (n + 1)) := Nat.lt_of_le_of_lt (and_le_of h) (dS_lt fun t _ => p2)
    refine ⟨fun t => g (nmS "l" k) / 2 ^ (c * t) % 2 ^ c, fun t htn => ?_, by rw [dS_dig, Nat.mod_eq_of_lt lt]⟩
    have e := dig_and c t (g (nmS "l" k)) (dS c (fun _ => 1) (n + 1))
    rw [h, dig_dS (fun t _ => p2) htn] at e
    exact and_le_of e.symm
  let L : Nat → Nat → Nat := fun k t => g (nmS "l" k) / 2 ^ (c * t) % 2 ^ c
  have hL1 : ∀ k < rs.length, (∀ t < n + 1, L k t ≤ 1) ∧ g (nmS "l" k) = dS c (L k) (n + 1) := fun k hk => by
    obtain ⟨f, f1, f2⟩ := hL k hk
    have e : ∀ t < n + 1, L k t = f t := fun t htn => by
      show g (nmS "l" k) / 2 ^ (c * t) % 2 ^ c = f t
      rw [f2, dig_dS (fun t h => by have := f1 t h; omega) htn]
    exact ⟨fun t h => by rw [e t h]; exact f1 t h, by rw [f2]; exact dS_congr fun t h => (e t h).symm⟩
  have hsum : ∀ t < n + 1, ((List.range rs.length).map fun k => L k t).sum = 1 := by
    have h := un_same (ht (s := same (sumT (lsT (List.range rs.length))) (.name "i")) (by
      unfold timeS
      exact List.mem_append_left _ (List.mem_append_left _ (List.mem_append_left _ (List.mem_append_right _ List.mem_cons_self)))))
    rw [ev_lsT, evN, hi] at h
    have e : ((List.range rs.length).map fun k => g (nmS "l" k)) = (List.range rs.length).map fun k => dS c (L k) (n + 1) := List.map_congr_left fun k hk => (hL1 k (List.mem_range.mp hk)).2
    rw [e, dS_list] at h
    refine dS_inj (c := c) (fun t htn => ?_) (fun t _ => p2) h
    have := sum_le1 (f := fun k => L k t) (ks := List.range rs.length) fun k hk => (hL1 k (List.mem_range.mp hk)).1 t htn
    rw [List.length_range] at this
    omega
  have hA : ∃ a : Nat → Nat, ∀ t < n + 1, a t < rs.length ∧ ∀ k < rs.length, L k t = indA a k t := by
    have : ∀ t, ∃ k0, t < n + 1 → k0 < rs.length ∧ ∀ k < rs.length, L k t = if k0 = k then 1 else 0 := fun t => by
      by_cases htn : t < n + 1
      · obtain ⟨k0, m0, e0, u0⟩ := sum01 (f := fun k => L k t) List.nodup_range (fun k hk => (hL1 k (List.mem_range.mp hk)).1 t htn) (hsum t htn)
        refine ⟨k0, fun _ => ⟨List.mem_range.mp m0, fun k hk => ?_⟩⟩
        by_cases e : k0 = k
        · subst e
          rw [if_pos rfl]
          exact e0
        · rw [if_neg e]
          exact u0 k (List.mem_range.mpr hk) fun q => e q.symm
      · exact ⟨0, fun q => absurd q htn⟩
    exact ⟨fun t => (this t).choose, fun t htn => (this t).choose_spec htn⟩
  obtain ⟨a, ha⟩ := hA
  have vl : ∀ k < rs.length, g (nmS "l" k) = dS c (indA a k) (n + 1) := fun k hk => by
    rw [(hL1 k hk).2]
    exact dS_congr fun t htn => (ha t htn).2 k hk
  have il : ∀ k, ∀ t < n + 1, indA a k t < 2 ^ c := fun k t _ => Nat.lt_of_le_of_lt (ind_le a k t) p2
  have a0 : a 0 = 0 := by
    have h := un_undr (ht (s := undr (.num 1) (.name (nmS "l" 0))) (by
      unfold timeS
      exact List.mem_append_left _ (List.mem_append_left _ (List.mem_append_right _ List.mem_cons_self))))
    rw [evI, evN, vl 0 hg.pos] at h
    have := under_at h 0 (by decide)
    rw [dS_bit c1 0 (il 0), Nat.zero_div, Nat.zero_mod] at this
    have := (Bool.and_eq_true_iff.mp this).2
    unfold indA at this
    by_cases q : a 0 = 0
    · exact q
    · rw [if_neg q, Nat.zero_testBit] at this
      cases this
  have mem : ∀ t, a t ∈ stpK rs rs.length ↔ rs[a t]? = some .st := fun t => by
    unfold stpK
    rw [List.mem_filter, List.mem_range]
    exact ⟨fun h => of_decide_eq_true h.2, fun h => ⟨(List.getElem?_eq_some_iff.mp h).1, decide_eq_true h⟩⟩
  have hstop : ∀ t < n + 1, (if a t ∈ stpK rs rs.length then 1 else 0) = if t = n then 1 else 0 := by
    have h := un_same (ht (s := same (sumT (lsT (stpK rs rs.length))) (pwAt (.name "s"))) (by
      unfold timeS
      exact List.mem_append_left _ (List.mem_append_right _ List.mem_cons_self)))
    unfold pwAt at h
    rw [lsum_of vl (ks := stpK rs rs.length) (fun k hk => List.mem_range.mp (List.mem_filter.mp hk).1) (nd_filter _), evW, evT, evI, evN, evN, ← ec, ← en] at h
    have e : dS c (fun t => if t = n then 1 else 0) (n + 1) = 2 ^ (c * n) := by
      have z : ∀ k, k ≤ n → dS c (fun t => if t = n then 1 else 0) k = 0 := by
        intro k
        induction k with
        | zero => exact fun _ => rfl
        | succ k ih =>
          intro hk
          show dS c _ k + (if k = n then 1 else 0) * 2 ^ (c * k) = 0
          rw [ih (by omega), if_neg (by omega)]
          omega
      show dS c _ n + (if n = n then 1 else 0) * 2 ^ (c * n) = _
      rw [z n (Nat.le_refl _), if_pos rfl]
      omega
    rw [← e] at h
    refine dS_inj (c := c) (fun t _ => ?_) (fun t _ => ?_) h
    · split <;> omega
    · split <;> omega
  have fin : rs[a n]? = some .st := (mem n).mp (by
    have := hstop n (by omega)
    rw [if_pos rfl] at this
    apply Classical.byContradiction
    intro q
    rw [if_neg q] at this
    cases this)
  have nst : ∀ t < n, rs[a t]? ≠ some .st := fun t htn e => by
    have := hstop t (by omega)
    rw [if_pos ((mem t).mpr e), if_neg (by omega)] at this
    cases this
  have vE : ∀ j ∈ asked m rs, g (nmS "e" j) + 2 * dS c (fun t => r t j) (n + 1) = 2 ^ c * dS c (fun _ => 1) (n + 1) := fun j hj => by
    have h := un_same (ht (s := same (.op "plus" (.name (nmS "e" j)) (.op "times" (.num 2) (.name (nmS "r" j)))) (.op "times" (.name "q") (.name "i"))) (by
      unfold timeS
      exact List.mem_append_right _ (List.mem_map.mpr ⟨j, hj, rfl⟩)))
    rw [evP, evT, evT, evN, evN, evN, evN, evI, (hr1 j (asked_lt j hj)).2, b3, hi] at h
    exact h
  -- a bit of the next figure
  have bit : ∀ {k B t}, k < rs.length → t < n → a t = k → 2 ^ c * dS c (indA a k) (n + 1) &&& B = 2 ^ c * dS c (indA a k) (n + 1) → rs[k]? ≠ some .st → B.testBit (c * (t + 1)) = true := fun {k B t} hk htn e h ns => by
    refine under_at h _ ?_
    have z : indA a k n = 0 := if_neg fun q => ns (by rw [← q]; exact fin)
    have sh1 : ∀ u < n + 1, shF (indA a k) u < 2 ^ c := fun u hu => by
      cases u with
      | zero => exact Nat.pow_pos (by decide)
      | succ u => exact il k u (by omega)
    rw [dS_shift0 c _ z, dS_bit c1 _ sh1, Nat.mul_div_cancel_left _ (by omega), Nat.mul_mod_right, decide_eq_true (show t + 1 < n + 1 by omega), Bool.true_and]
    have : shF (indA a k) (t + 1) = 1 := if_pos e
    rw [this]
    rfl
  have bitL : ∀ {f : Nat → Nat} {t}, t < n → (∀ u < n + 1, f u ≤ 1) → (dS c f (n + 1)).testBit (c * (t + 1)) = true → f (t + 1) = 1 := fun {f t} htn hf h => by
    rw [dS_bit c1 _ (fun u hu => Nat.lt_of_le_of_lt (hf u hu) p2), Nat.mul_div_cancel_left _ (by omega), Nat.mul_mod_right] at h
    have h := (Bool.and_eq_true_iff.mp h).2
    have h1 := hf (t + 1) (by omega)
    rcases Nat.eq_or_lt_of_le h1 with q | q
    · exact q
    · rw [show f (t + 1) = 0 by omega, Nat.zero_testBit] at h
      cases h
  -- boxes, time by time
  have hbox : ∀ j < m, g (nmS "x" j) = r 0 j ∧ g (nmS "y" j) = r n j ∧ ∀ t < n, r (t + 1) j + (if a t ∈ plc rs (.dn j) rs.length then 1 else 0) = r t j + if a t ∈ plc rs (.up j) rs.length then 1 else 0 := fun j hj => by
    have h := un_same (hx hj)
    unfold topT pwAt at h
    have sub : ∀ q, ∀ k ∈ plc rs q rs.length, k < rs.length := fun q k hk => List.mem_range.mp (List.mem_filter.mp hk).1
    rw [evP, evT, evP, evP, evP, evT, evT, evW, evT, evP, lsum_of vl (ks := plc rs (.up j) rs.length) (sub _) (nd_filter _), lsum_of vl (ks := plc rs (.dn j) rs.length) (sub _) (nd_filter _), evN, evN, evN, evN, evN, evN, evI, evI, (hr1 j hj).2, b3, ← ec, ← en] at h
    obtain ⟨up, hup⟩ : ∃ up : Nat → Nat, up = fun t => if a t ∈ plc rs (.up j) rs.length then 1 else 0 := ⟨_, rfl⟩
    obtain ⟨dn, hdn⟩ : ∃ dn : Nat → Nat, dn = fun t => if a t ∈ plc rs (.dn j) rs.length then 1 else 0 := ⟨_, rfl⟩
    have ups : ∀ t, up t ≤ 1 := fun t => by rw [hup]; show (if a t ∈ _ then 1 else 0) ≤ 1; split <;> omega
    have dns : ∀ t, dn t ≤ 1 := fun t => by rw [hdn]; show (if a t ∈ _ then 1 else 0) ≤ 1; split <;> omega
    rw [← hup, ← hdn] at h
    have memP : ∀ q t, a t ∈ plc rs q rs.length ↔ rs[a t]? = some q := fun q t => by
      unfold plc
      rw [List.mem_filter, List.mem_range]
      exact ⟨fun h => of_decide_eq_true h.2, fun h => ⟨(List.getElem?_eq_some_iff.mp h).1, decide_eq_true h⟩⟩
    have upn : up n = 0 := by
      rw [hup]
      exact if_neg fun q => by have := (memP _ n).mp q; rw [fin] at this; cases this
    have dnn : dn n = 0 := by
      rw [hdn]
      exact if_neg fun q => by have := (memP _ n).mp q; rw [fin] at this; cases this
    have rb := (hr1 j hj).1
    -- figure by figure
    have key : ∀ (k : Nat) (f p d : Nat → Nat) (x y : Nat), (∀ t < k + 1, f t + 1 ≤ 2 ^ (c - 1)) → (∀ t, p t ≤ 1) → (∀ t, d t ≤ 1) → x < 2 ^ c → 2 ^ c * (dS c f (k + 1) + dS c p (k + 1)) + x = dS c f (k + 1) + 2 ^ c * dS c d (k + 1) + 2 ^ (c * (k + 1)) * y → p k = 0 → d k = 0 → x = f 0 ∧ y = f k ∧ ∀ t < k, f (t + 1) + d t = f t + p t := by
      intro k
      induction k with
      | zero =>
        intro f p d x y hf hp1 hd1 hx0 he pk dk
        have f0 := hf 0 (by omega)
        have e1 : ∀ q : Nat → Nat, dS c q 1 = q 0 := fun q => by
          show 0 + q 0 * 2 ^ (c * 0) = q 0
          rw [Nat.mul_zero, Nat.pow_zero]
          omega
        rw [Nat.zero_add, e1, e1, e1, pk, dk, Nat.mul_one] at he
        rw [Nat.add_zero, Nat.mul_zero, Nat.add_zero] at he
        have hm := congrArg (· % 2 ^ c) he
        have hm : (2 ^ c * f 0 + x) % 2 ^ c = (f 0 + 2 ^ c * y) % 2 ^ c := hm
        rw [Nat.mul_add_mod, Nat.add_mul_mod_self_left, Nat.mod_eq_of_lt hx0, Nat.mod_eq_of_lt (by omega)] at hm
        have hy : 2 ^ c * f 0 = 2 ^ c * y := by omega
        exact ⟨hm, (Nat.eq_of_mul_eq_mul_left (by omega) hy).symm, fun t h => absurd h (Nat.not_lt_zero _)⟩
      | succ k ih =>
        intro f p d x y hf hp1 hd1 hx0 he pk dk
        have f0 := hf 0 (by omega)
        have f1 := hf 1 (by omega)
        have p0 := hp1 0
        have d0 := hd1 0
        rw [dS_head c f (k + 1), dS_head c p (k + 1), dS_head c d (k + 1)] at he
        have ep : 2 ^ (c * (k + 1 + 1)) * y = 2 ^ c * (2 ^ (c * (k + 1)) * y) := by
          rw [Nat.mul_succ c (k + 1), Nat.pow_add, Nat.mul_comm (2 ^ (c * (k + 1))) (2 ^ c), Nat.mul_assoc]
        rw [ep] at he
        generalize hF : dS c (fun t => f (t + 1)) (k + 1) = F at he
        generalize hP : dS c (fun t => p (t + 1)) (k + 1) = P at he
        generalize hD : dS c (fun t => d (t + 1)) (k + 1) = D at he
        generalize hY : 2 ^ (c * (k + 1)) * y = Y at he
        have hm := congrArg (· % 2 ^ c) he
        have hm : (2 ^ c * (f 0 + 2 ^ c * F + (p 0 + 2 ^ c * P)) + x) % 2 ^ c = (f 0 + 2 ^ c * F + 2 ^ c * (d 0 + 2 ^ c * D) + 2 ^ c * Y) % 2 ^ c := hm
        rw [Nat.mul_add_mod, Nat.mod_eq_of_lt hx0, Nat.add_mul_mod_self_left, Nat.add_mul_mod_self_left, Nat.add_mul_mod_self_left, Nat.mod_eq_of_lt (by omega)] at hm
        have e2 : 2 ^ c * (f 0 + 2 ^ c * F + (p 0 + 2 ^ c * P)) = 2 ^ c * (F + (d 0 + 2 ^ c * D) + Y) := by
          rw [Nat.mul_add (2 ^ c) (F + _), Nat.mul_add (2 ^ c) F]
          omega
        have e3 := Nat.eq_of_mul_eq_mul_left (show 0 < 2 ^ c by omega) e2
        have res := ih (fun t => f (t + 1)) (fun t => p (t + 1)) (fun t => d (t + 1)) (f 0 + p 0 - d 0) y (fun t h => hf (t + 1) (by omega)) (fun t => hp1 _) (fun t => hd1 _) (by omega) (by
          rw [hF, hP, hD, hY, Nat.mul_add]
          have hFh : F = f 1 + 2 ^ c * dS c (fun t => f (t + 1 + 1)) k := by rw [← hF]; exact dS_head c (fun t => f (t + 1)) k
          have hYm : ∃ Y', Y = 2 ^ c * Y' := ⟨2 ^ (c * k) * y, by rw [← hY, Nat.mul_succ c k, Nat.pow_add, Nat.mul_comm (2 ^ (c * k)) (2 ^ c), Nat.mul_assoc]⟩
          obtain ⟨Y', hY'⟩ := hYm
          have hm2 := congrArg (· % 2 ^ c) e3
          have hm2 : (f 0 + 2 ^ c * F + (p 0 + 2 ^ c * P)) % 2 ^ c = (F + (d 0 + 2 ^ c * D) + Y) % 2 ^ c := hm2
          rw [hY', hFh] at hm2
          generalize dS c (fun t => f (t + 1 + 1)) k = F' at hm2
          rw [show f 0 + 2 ^ c * (f 1 + 2 ^ c * F') + (p 0 + 2 ^ c * P) = f 0 + p 0 + 2 ^ c * (f 1 + 2 ^ c * F' + P) by rw [Nat.mul_add (2 ^ c) (f 1 + _)]; omega, show f 1 + 2 ^ c * F' + (d 0 + 2 ^ c * D) + 2 ^ c * Y' = f 1 + d 0 + 2 ^ c * (F' + D + Y') by rw [Nat.mul_add (2 ^ c) (F' + D), Nat.mul_add (2 ^ c) F']; omega, Nat.add_mul_mod_self_left, Nat.add_mul_mod_self_left, Nat.mod_eq_of_lt (by omega), Nat.mod_eq_of_lt (by omega)] at hm2
          omega) pk dk
        obtain ⟨r1, r2, r3⟩ := res
        have hFh : F = f 1 + 2 ^ c * dS c (fun t => f (t + 1 + 1)) k := by rw [← hF]; exact dS_head c (fun t => f (t + 1)) k
        have hm2 := congrArg (· % 2 ^ c) e3
        have hm2 : (f 0 + 2 ^ c * F + (p 0 + 2 ^ c * P)) % 2 ^ c = (F + (d 0 + 2 ^ c * D) + Y) % 2 ^ c := hm2
        have hYm : ∃ Y', Y = 2 ^ c * Y' := ⟨2 ^ (c * k) * y, by rw [← hY, Nat.mul_succ c k, Nat.pow_add, Nat.mul_comm (2 ^ (c * k)) (2 ^ c), Nat.mul_assoc]⟩
        obtain ⟨Y', hY'⟩ := hYm
        rw [hY', hFh] at hm2
        generalize dS c (fun t => f (t + 1 + 1)) k = F' at hm2
        rw [show f 0 + 2 ^ c * (f 1 + 2 ^ c * F') + (p 0 + 2 ^ c * P) = f 0 + p 0 + 2 ^ c * (f 1 + 2 ^ c * F' + P) by rw [Nat.mul_add (2 ^ c) (f 1 + _)]; omega, show f 1 + 2 ^ c * F' + (d 0 + 2 ^ c * D) + 2 ^ c * Y' = f 1 + d 0 + 2 ^ c * (F' + D + Y') by rw [Nat.mul_add (2 ^ c) (F' + D), Nat.mul_add (2 ^ c) F']; omega, Nat.add_mul_mod_self_left, Nat.add_mul_mod_self_left, Nat.mod_eq_of_lt (by omega), Nat.mod_eq_of_lt (by omega)] at hm2
        refine ⟨hm, r2, fun t h => ?_⟩
        cases t with
        | zero => exact hm2.symm
        | succ t => exact r3 t (by omega)
    have xb : g (nmS "x" j) < 2 ^ c := by
      have : ∀ l : List Nat, ∀ z ∈ l, g (nmS "x" z) ≤ (l.map fun j => g (nmS "x" j)).sum := by
        intro l
        induction l with
        | nil => exact fun z hz => by cases hz
        | cons y l ih =>
          intro z hz
          rw [List.map_cons, List.sum_cons]
          rcases List.mem_cons.mp hz with rfl | hz
          · omega
          · have := ih z hz
            omega
      have := this _ j (List.mem_range.mpr hj)
      omega
    have := key n (fun t => r t j) up dn (g (nmS "x" j)) (g (nmS "y" j)) rb ups dns xb h upn dnn
    rw [hup, hdn] at this
    exact this
  have memP : ∀ q t, a t ∈ plc rs q rs.length ↔ rs[a t]? = some q := fun q t => by
    unfold plc
    rw [List.mem_filter, List.mem_range]
    exact ⟨fun h => of_decide_eq_true h.2, fun h => ⟨(List.getElem?_eq_some_iff.mp h).1, decide_eq_true h⟩⟩
  have indI : ∀ {k u}, indA a k u = 1 → a u = k := fun {k u} h => by
    unfold indA at h
    by_cases q : a u = k
    · exact q
    · rw [if_neg q] at h
      cases h
  have step : ∀ t < n, StepA rs (a t) (r t) (a (t + 1)) (r (t + 1)) := by
    intro t htn
    have hk := (ha t (by omega)).1
    have hrk := List.getElem?_eq_getElem hk
    have hok := hg.ok rs[a t] (List.getElem_mem hk)
    have ns := nst t htn
    have onward : ¬ rs[a t].ends → a t + 1 < rs.length := fun h => by
      obtain ⟨us, r0, e, he⟩ := hg.fin
      apply Classical.byContradiction
      intro q
      have e2 : rs.length = us.length + 1 := by rw [e, List.length_append]; rfl
      have e3 : rs[a t]? = some r0 := by
        rw [e, show a t = us.length by omega, List.getElem?_append_right (Nat.le_refl _), Nat.sub_self]
        rfl
      rw [hrk] at e3
      exact h (by rw [Option.some.inj e3]; exact he)
    have one : ∀ {k'}, k' < rs.length → undr (.op "times" (.name "q") (.name (nmS "l" (a t)))) (.name (nmS "l" k')) ∈ rowS rs (a t) → a (t + 1) = k' := fun {k'} hk' hm => by
      have h := un_undr (hr hk hm)
      rw [evT, evN, evN, evN, b3, vl _ hk, vl _ hk'] at h
      exact indI (bitL htn (fun u _ => ind_le a k' u) (bit hk htn rfl h ns))
    have other : ∀ i, (∀ j, j = i → rs[a t]? ≠ some (.up j) ∧ rs[a t]? ≠ some (.dn j)) → r (t + 1) i = r t i := fun i hi => by
      by_cases him : i < m
      · have h := (hbox i him).2.2 t htn
        rw [if_neg fun q => (hi i rfl).2 ((memP _ t).mp q), if_neg fun q => (hi i rfl).1 ((memP _ t).mp q)] at h
        exact h
      · rw [hr0 _ _ him, hr0 _ _ him]
    unfold StepA
    rw [hrk]
    cases e : rs[a t] with
    | st => exact absurd (by rw [hrk, e]) ns
    | go gl =>
      rw [e] at hok hrk
      refine ⟨one hok ?_, fun i => other i fun j _ => ⟨fun q => ?_, fun q => ?_⟩⟩
      · unfold rowS
        rw [hrk]
        exact List.mem_cons_self
      · rw [hrk] at q; cases q
      · rw [hrk] at q; cases q
    | up j =>
      have ho := onward (by rw [e]; exact fun q => q)
      rw [e] at hok hrk
      have hj : j < m := hok
      refine ⟨one ho ?_, ?_, fun i hi => other i fun j' ej => ⟨fun q => ?_, fun q => ?_⟩⟩
      · unfold rowS
        rw [hrk]
        exact List.mem_cons_self
      · have h := (hbox j hj).2.2 t htn
        rw [if_neg fun q => (by have := (memP _ t).mp q; rw [hrk] at this; cases this), if_pos ((memP _ t).mpr hrk)] at h
        exact h
      · rw [hrk] at q; cases q; exact hi ej.symm
      · rw [hrk] at q; cases q
    | dn j =>
      have ho := onward (by rw [e]; exact fun q => q)
      rw [e] at hok hrk
      have hj : j < m := hok
      refine ⟨one ho ?_, ?_, fun i hi => other i fun j' ej => ⟨fun q => ?_, fun q => ?_⟩⟩
      · unfold rowS
        rw [hrk]
        exact List.mem_cons_self
      · have h := (hbox j hj).2.2 t htn
        rw [if_neg (c := a t ∈ plc rs (.up j) rs.length) fun q => (by have := (memP _ t).mp q; rw [hrk] at this; cases this), if_pos ((memP _ t).mpr hrk)] at h
        exact h.symm
      · rw [hrk] at q; cases q
      · rw [hrk] at q; cases q; exact hi ej.symm
    | br j gl =>
      have ho := onward (by rw [e]; exact fun q => q)
      rw [e] at hok hrk
      have hj : j < m := hok.1
      refine ⟨?_, fun i => other i fun j _ => ⟨fun q => ?_, fun q => ?_⟩⟩
      · by_cases hgk : gl = a t + 1
        · have : a (t + 1) = a t + 1 := one ho (by
            unfold rowS
            rw [hrk]
            show _ ∈ (if gl = a t + 1 then _ else _)
            rw [if_pos hgk]
            exact List.mem_cons_self)
          rw [this, hgk]
          split <;> rfl
        · have hrow : rowS rs (a t) = [undr (.op "times" (.name "q") (.name (nmS "l" (a t)))) (.op "plus" (.name (nmS "l" gl)) (.name (nmS "l" (a t + 1)))), undr (.op "times" (.name "q") (.name (nmS "l" (a t)))) (.op "plus" (.name (nmS "l" (a t + 1))) (.name (nmS "e" j)))] := by
            unfold rowS
            rw [hrk]
            show (if gl = a t + 1 then _ else _) = _
            rw [if_neg hgk]
          have h1 := un_undr (hr hk (s := undr (.op "times" (.name "q") (.name (nmS "l" (a t)))) (.op "plus" (.name (nmS "l" gl)) (.name (nmS "l" (a t + 1))))) (by rw [hrow]; exact List.mem_cons_self))
          have h2 := un_undr (hr hk (s := undr (.op "times" (.name "q") (.name (nmS "l" (a t)))) (.op "plus" (.name (nmS "l" (a t + 1))) (.name (nmS "e" j)))) (by rw [hrow]; exact List.mem_cons_of_mem _ List.mem_cons_self))
          rw [evT, evP, evN, evN, evN, evN, b3, vl _ hk, vl _ hok.2, vl _ ho, dS_add] at h1
          have le1 : ∀ u, indA a gl u + indA a (a t + 1) u ≤ 1 := fun u => by
            unfold indA
            by_cases q : a u = gl
            · rw [if_pos q, if_neg (by omega)]
              decide
            · rw [if_neg q]
              split <;> decide
          have s1 := bitL htn (fun u _ => le1 u) (bit hk htn rfl h1 ns)
          have c2 : 2 ≤ c := by
            apply Classical.byContradiction
            intro q
            have : c = 1 := by omega
            subst this
            have : (2 : Nat) ^ 1 = 2 := rfl
            omega
          have hja : j ∈ asked m rs := by
            unfold asked
            refine List.mem_filter.mpr ⟨List.mem_range.mpr hj, ?_⟩
            unfold askB
            refine List.any_eq_true.mpr ⟨a t, List.mem_range.mpr hk, ?_⟩
            unfold isAsk
            rw [hrk]
            simp [hgk]
          have rb := (hr1 j hj).1
          have hE : g (nmS "e" j) = dS c (fun u => 2 ^ c - 2 * r u j) (n + 1) := by
            have q1 := vE j hja
            have q2 : dS c (fun u => 2 ^ c - 2 * r u j) (n + 1) + 2 * dS c (fun u => r u j) (n + 1) = 2 ^ c * dS c (fun _ => 1) (n + 1) := by
              rw [dS_mul, dS_mul, dS_add]
              refine dS_congr fun u hu => ?_
              have := rb u hu
              omega
            omega
          rw [evT, evP, evN, evN, evN, evN, b3, vl _ hk, vl _ ho, hE, dS_add] at h2
          have b2' := bit hk htn rfl h2 ns
          have hk0 : indA a (a t + 1) t = 0 := if_neg (by omega)
          have r1 := rb t (by omega)
          have r2 := rb (t + 1) (by omega)
          have l2 := ind_le a (a t + 1) (t + 1)
          rw [odd_val c2 (by omega) (fun u hu => by have := ind_le a (a t + 1) u; show indA a (a t + 1) u + (2 ^ c - 2 * r u j) ≤ _; omega) (by show indA a (a t + 1) t + (2 ^ c - 2 * r t j) = _ ∨ indA a (a t + 1) t + (2 ^ c - 2 * r t j) + 2 ≤ _; omega)] at b2'
          have b3' : (indA a (a t + 1) (t + 1) + (2 ^ c - 2 * r (t + 1) j) + if indA a (a t + 1) t + (2 ^ c - 2 * r t j) = 2 ^ c then 1 else 0) % 2 = 1 := of_decide_eq_true b2'
          by_cases q : r t j = 0
          · rw [if_pos q]
            rw [if_pos (by omega)] at b3'
            exact indI (by omega)
          · rw [if_neg q]
            rw [if_neg (by omega)] at b3'
            exact indI (by omega)
      · rw [hrk] at q; cases q
      · rw [hrk] at q; cases q
  refine ⟨a, r, ⟨c1, a0, fun t htn => (ha t htn).1, fun t htn j hj => (hr1 j hj).1 t htn, by omega, step, fin⟩, ⟨fun j hj => (hbox j hj).1, fun j hj => (hbox j hj).2.1, en.symm, ec.symm, hh, ?_, b3, by omega, hi, hm, fun j hj => (hr1 j hj).2, vl, vE⟩⟩
  have e : ((List.range m).map fun j => r 0 j) = (List.range m).map fun j => g (nmS "x" j) := List.map_congr_left fun j hj => ((hbox j (List.mem_range.mp hj)).1).symm
  rw [e]
  omega
end
/-! a run is one alone; numbers of which one alone is otherwise -/
theorem stepA_det {m : Nat} {rs : List Rw} (hg : RwsOk m rs.length rs) {k k1 k2 : Nat} {x y x1 y2 : Nat → Nat} (h1 : StepA rs k x k1 x1) (h2 : StepA rs k y k2 y2) (h : ∀ j < m, x j = y j) : k1 = k2 ∧ ∀ j < m, x1 j = y2 j := by
  unfold StepA at h1 h2
  cases e : rs[k]? with
  | none => rw [e] at h1; exact h1.elim
  | some q =>
    have ok := hg q (List.mem_of_getElem? e)
    rw [e] at h1 h2
    cases q with
    | st => exact h1.elim
    | go gl => exact ⟨by rw [h1.1, h2.1], fun j hj => by rw [h1.2, h2.2, h j hj]⟩
    | br j gl =>
      have ok : j < m ∧ _ := ok
      obtain ⟨a1, a2⟩ := h1
      obtain ⟨b1, b2⟩ := h2
      rw [h j ok.1] at a1
      exact ⟨by rw [a1, b1], fun i hi => by rw [a2, b2, h i hi]⟩
    | up j =>
      obtain ⟨a1, a2, a3⟩ := h1
      obtain ⟨b1, b2, b3⟩ := h2
      refine ⟨by rw [a1, b1], fun i hi => ?_⟩
      by_cases e : i = j
      · subst e
        rw [a2, b2, h i hi]
      · rw [a3 i e, b3 i e, h i hi]
    | dn j =>
      obtain ⟨a1, a2, a3⟩ := h1
      obtain ⟨b1, b2, b3⟩ := h2
      refine ⟨by rw [a1, b1], fun i hi => ?_⟩
      by_cases e : i = j
      · subst e
        have := h i hi
        omega
      · rw [a3 i e, b3 i e, h i hi]
section
variable {m c c' n n' : Nat} {rs : List Rw} {a a' : Nat → Nat} {r r' : Nat → Nat → Nat} {g g' : Str → Nat}
theorem Tr.same (hg : Prg m rs) (T : Tr m rs c n a r) (T' : Tr m rs c' n' a' r') (h0 : ∀ j < m, r 0 j = r' 0 j) : ∀ t, t ≤ n → t ≤ n' → a t = a' t ∧ ∀ j < m, r t j = r' t j := by
  intro t
  induction t with
  | zero => exact fun _ _ => ⟨by rw [T.a0, T'.a0], h0⟩
  | succ t ih =>
    intro h1 h2
    obtain ⟨e1, e2⟩ := ih (by omega) (by omega)
    have s1 := T.st t (by omega)
    have s2 := T'.st t (by omega)
    rw [← e1] at s2
    exact stepA_det hg.ok s1 s2 e2
theorem Tr.uniq (hg : Prg m rs) (T : Tr m rs c n a r) (T' : Tr m rs c' n' a' r') (h0 : ∀ j < m, r 0 j = r' 0 j) : n = n' ∧ ∀ t, t < n + 1 → a t = a' t ∧ ∀ j < m, r t j = r' t j := by
  have h := T.same hg T' h0
  have e : n = n' := by
    rcases Nat.lt_trichotomy n n' with q | q | q
    · have := (h n (Nat.le_refl _) (by omega)).1
      exact absurd (by rw [← this]; exact T.fin) (T'.nst q)
    · exact q
    · have := (h n' (by omega) (Nat.le_refl _)).1
      exact absurd (by rw [this]; exact T'.fin) (T.nst q)
  exact ⟨e, fun t ht => h t (by omega) (by omega)⟩
end
/-! numbers of which all sayings hold, told by where they begin -/
section
variable {m c : Nat} {rs : List Rw} {bs ys : List Nat} {ss : List (Nat × List Nat)} {g : Str → Nat}
theorem ansB0 {M k0 : Nat} {pre : List (Nat × List Nat)} (ho : StpOk m rs bs ss M) (hM : M ≤ 500) : ∃ c0, ∀ t j, cell ss t j + 1 ≤ 2 ^ (c0 - 1) ∧ 1 ≤ c0 ∧ rs.length + 1 ≤ 2 ^ c0 := by
  have R := ho.runB hM
  refine ⟨30, fun t j => ⟨?_, by decide, by have := ho.pr.len; omega⟩⟩
  unfold cell
  split
  · rename_i r cs e
    have := getD_le (j := j) (fun x hx => (R.bd _ (List.mem_of_getElem? e)).2.2 x hx)
    have : cs.getD j 0 ≤ 100000 := this
    omega
  · omega
/-- a run's times, whatever base -/
theorem run_tr0 {M k0 : Nat} {pre : List (Nat × List Nat)} (ho : StpOk m rs bs ss M) (hM : M ≤ 500) (hss : ss = pre ++ [(k0, ys)]) : ∃ c0, Tr m rs c0 (ss.length - 1) (rowT ss) (fun t j => cell ss t j) := by
  have hg := ho.pr
  have hl : ss.length = pre.length + 1 := by rw [hss, List.length_append]; rfl
  have R := ho.runB hM
  have hrun := ho.st.run (N := ss.length) (by omega)
  have hok : ∀ s ∈ ss, s.1 < rs.length ∧ s.2.length = m := fun s hs => by
    rw [← hrun] at hs
    have := runL_ok hg (SOk.start hg ho.ln ho.bd) s hs
    exact ⟨this.k, this.l⟩
  have at_ : ∀ t, t < ss.length → ∃ k cs, ss[t]? = some (k, cs) ∧ rowT ss t = k ∧ (∀ j, cell ss t j = cs.getD j 0) ∧ k < rs.length ∧ cs.length = m := fun t ht => by
    obtain ⟨⟨k, cs⟩, e⟩ : ∃ s, ss[t]? = some s := ⟨_, List.getElem?_eq_getElem ht⟩
    have hm := hok _ (List.mem_of_getElem? e)
    refine ⟨k, cs, e, ?_, fun j => ?_, hm.1, hm.2⟩
    · unfold rowT; rw [e]
    · unfold cell; rw [e]
  obtain ⟨c0, h0⟩ := ansB0 (k0 := k0) (pre := pre) ho hM
  refine ⟨c0, ⟨(h0 0 0).2.1, ?_, fun t ht => ?_, fun t ht j hj => (h0 t j).1, (h0 0 0).2.2, fun t ht => ?_, ?_⟩⟩
  · obtain ⟨l, e⟩ := ho.st.head
    unfold rowT
    rw [e]
    rfl
  · obtain ⟨k, cs, _, e, _, h, _⟩ := at_ t (by omega)
    rw [e]
    exact h
  · obtain ⟨k, cs, e, e1, e2, h1, h2⟩ := at_ t (by omega)
    obtain ⟨k', cs', e', e1', e2', h1', h2'⟩ := at_ (t + 1) (by omega)
    have hn := runL_next (rs := rs) (n := ss.length) (s := (0, bs)) (i := t) (u := (k, cs)) (v := (k', cs')) (by rw [hrun]; exact e) (by rw [hrun]; exact e')
    have h := step_aft hg h2 hn
    show StepA rs (rowT ss t) (fun j => cell ss t j) (rowT ss (t + 1)) (fun j => cell ss (t + 1) j)
    rw [e1, e1', show (fun j => cell ss t j) = fun j => cs.getD j 0 from funext e2, show (fun j => cell ss (t + 1) j) = fun j => cs'.getD j 0 from funext e2']
    exact h
  · have e : ss[ss.length - 1]? = some (k0, ys) := by
      rw [hl, Nat.add_sub_cancel]
      rw [hss, List.getElem?_append_right (Nat.le_refl _), Nat.sub_self]
      rfl
    have e1 : rowT ss (ss.length - 1) = k0 := by unfold rowT; rw [e]
    obtain ⟨pre', last, h1, h2, _⟩ := ho.st.ex
    rw [hss] at h1
    have := (List.append_inj' h1 rfl).2
    cases this
    rw [e1]
    exact h2
theorem cell0 {M : Nat} (ho : StpOk m rs bs ss M) (j : Nat) : cell ss 0 j = bs.getD j 0 := by
  obtain ⟨l, e⟩ := ho.st.head
  unfold cell
  rw [e]
  rfl
theorem hold_run {M k0 : Nat} {pre : List (Nat × List Nat)} (ho : StpOk m rs bs ss M) (hM : M ≤ 500) (hss : ss = pre ++ [(k0, ys)]) (hx : ∀ j < m, g (nmS "x" j) = bs.getD j 0) (H : ∀ s ∈ sysOf m rs, holdG g s = true) :
    Tr m rs (g "c") (ss.length - 1) (rowT ss) (fun t j => cell ss t j) ∧ Nums g m rs (g "c") (ss.length - 1) (rowT ss) (fun t j => cell ss t j) ∧ cL (grt ss) rs.length ≤ g "c" := by
  have hg := ho.pr
  obtain ⟨c0, T0⟩ := run_tr0 ho hM hss
  obtain ⟨a, r, T, N⟩ := sys_back hg H
  have h0 : ∀ j < m, r 0 j = cell ss 0 j := fun j hj => by rw [← N.vx j hj, hx j hj, cell0 ho j]
  obtain ⟨en, hu⟩ := T.uniq hg T0 h0
  rw [en] at T N hu
  have T' : Tr m rs (g "c") (ss.length - 1) (rowT ss) (fun t j => cell ss t j) := ⟨T.c1, T0.a0, T0.al, fun t ht j hj => by rw [← (hu t ht).2 j hj]; exact T.rb t ht j hj, T.nl, T0.st, T0.fin⟩
  have hR : ∀ j < m, dS (g "c") (fun t => r t j) (ss.length - 1 + 1) = dS (g "c") (fun t => cell ss t j) (ss.length - 1 + 1) := fun j hj => dS_congr fun t ht => (hu t ht).2 j hj
  have e0 : ((List.range m).map fun j => r 0 j) = (List.range m).map fun j => cell ss 0 j := List.map_congr_left fun j hj => h0 j (List.mem_range.mp hj)
  have N' : Nums g m rs (g "c") (ss.length - 1) (rowT ss) (fun t j => cell ss t j) := by
    refine ⟨fun j hj => by rw [N.vx j hj, h0 j hj], fun j hj => ?_, by rw [N.vs], rfl, N.vh, by rw [← e0]; exact N.vd, N.vq, N.vg, N.vi, N.vm, fun j hj => by rw [N.vr j hj, hR j hj], fun k hk => ?_, fun j hj => by rw [← hR j (asked_lt j hj)]; exact N.ve j hj⟩
    · rw [N.vy j hj]
      exact (hu _ (by omega)).2 j hj
    · rw [N.vl k hk]
      refine dS_congr fun t ht => ?_
      unfold indA
      rw [(hu t ht).1]
  refine ⟨T', N', ?_⟩
  have R := ho.runB hM
  have hpos := Nat.pow_pos (n := g "c" - 1) (show 0 < 2 by decide)
  apply Classical.byContradiction
  intro q
  rcases (cL_lt (G := grt ss) (n := rs.length) T.c1).mpr (by omega) with h | h
  · have hb : grt ss ≤ 2 ^ (g "c" - 1) - 1 := by
      unfold grt
      refine mxN_bd fun x hxm => ?_
      rcases List.mem_cons.mp hxm with e | hxm
      · obtain ⟨l, hl⟩ := R.hd
        have e1 : smN ((ss.map (·.2)).headD []) = bs.sum := by
          rw [hl]
          exact smN_sum bs
        have e2 : ((List.range m).map fun j => cell ss 0 j).sum = bs.sum := by
          rw [← range_getD bs, ho.ln]
          congr 1
          exact List.map_congr_left fun j _ => cell0 ho j
        have := N'.vd
        rw [e2] at this
        omega
      · obtain ⟨s, hs, e⟩ := List.mem_map.mp hxm
        rw [← e]
        refine mxN_bd fun y hy => ?_
        obtain ⟨t, ht, e⟩ := List.mem_iff_getElem.mp hs
        obtain ⟨j, hj, e'⟩ := List.mem_iff_getElem.mp hy
        have hjm : j < m := by rw [← R.ln s hs]; exact hj
        have := T'.rb t (by omega) j hjm
        have ec : cell ss t j = y := by
          unfold cell
          rw [List.getElem?_eq_getElem ht, e]
          show s.2.getD j 0 = y
          rw [List.getD_eq_getElem?_getD, List.getElem?_eq_getElem hj, e']
          rfl
        have : cell ss t j + 1 ≤ 2 ^ (g "c" - 1) := this
        omega
    omega
  · have := T.nl
    omega
end
/-! two dicts of whole numbers, with the same keys, compared -/
theorem all_map_id2 {α : Type} (f : α → Bool) : ∀ l : List α, (l.map f).all id = l.all f
  | [] => rfl
  | x :: l => by
    rw [List.map_cons, List.all_cons, List.all_cons, all_map_id2 f l]
    rfl
def mx0 (p : Key × V) : Key × V := match p.2 with
  | .int i => (p.1, .int (max 0 i))
  | v => (p.1, v)
theorem mx0_key (p : Key × V) : (mx0 p).1 = p.1 := by
  unfold mx0
  split <;> rfl
theorem mx0_keys (l : List (Key × V)) : (l.map mx0).map (·.1) = l.map (·.1) := by
  rw [List.map_map]
  exact List.map_congr_left fun p _ => mx0_key p
theorem putK_at {l1 l2 : List (Key × V)} {k : Key} {v w : V} (nd : ((l1 ++ (k, v) :: l2).map (·.1)).Nodup) : putK (l1 ++ (k, v) :: l2) k w = l1 ++ (k, w) :: l2 := by
  unfold putK
  rw [if_pos (List.any_eq_true.mpr ⟨(k, v), List.mem_append_right _ List.mem_cons_self, decide_eq_true rfl⟩)]
  rw [List.map_append, List.map_cons] at nd
  obtain ⟨n1, n2, n3⟩ := List.nodup_append.mp nd
  obtain ⟨n4, n5⟩ := List.nodup_cons.mp n2
  rw [List.map_append, List.map_cons, if_pos rfl]
  congr 1
  · refine (List.map_congr_left fun p hp => if_neg fun e => ?_).trans (List.map_id _)
    exact n3 p.1 (List.mem_map.mpr ⟨p, hp, rfl⟩) k List.mem_cons_self e
  · congr 1
    refine (List.map_congr_left fun p hp => if_neg fun e => ?_).trans (List.map_id _)
    exact n4 (by rw [← e]; exact List.mem_map.mpr ⟨p, hp, rfl⟩)
theorem ents_ub {m c : Nat} {rs : List Rw} {bs ys : List Nat} {ss : List (Nat × List Nat)} (hg : Prg m rs) (c1 : 1 ≤ c) (sz : c * (ss.length + 1) ≤ 4000) (hb : ∀ j, bs.getD j 0 ≤ 2 ^ 20) (hy : ∀ j, ys.getD j 0 ≤ 2 ^ 20) (hc : ∀ t j, cell ss t j ≤ 2 ^ 20) : ∀ p ∈ ansD m rs bs ys ss c, ∃ (s : Str) (i : Int), p = kvE s i ∧ i < ((2 ^ 5000 : Nat) : Int) ∧ Low s := by
  have h5 := hg.b5
  have h14 := hg.len
  have hcn : c * ss.length + c ≤ 4000 := by rw [Nat.mul_succ] at sz; exact sz
  obtain ⟨i0, i1⟩ := iS_bd c1 ss.length
  obtain ⟨B, hB⟩ : ∃ B : Int, B = 2 ^ (c * ss.length) := ⟨_, rfl⟩
  obtain ⟨C, hC⟩ : ∃ C : Int, C = 2 ^ c := ⟨_, rfl⟩
  have hB0 : 0 < B := by rw [hB]; exact Int.pow_pos (by decide)
  have hC0 : 0 < C := by rw [hC]; exact Int.pow_pos (by decide)
  have big : ∀ e : Nat, e ≤ 4999 → ((2 ^ e : Nat) : Int) < ((2 ^ 5000 : Nat) : Int) := fun e he => Int.ofNat_lt.mpr (Nat.pow_lt_pow_right (by decide) (by omega))
  have hCB : C * B < ((2 ^ 5000 : Nat) : Int) := by
    rw [hC, hB, ← Int.pow_add, pow2_nat]
    exact big _ (by omega)
  have h20B : 2 ^ 20 * B < ((2 ^ 5000 : Nat) : Int) := by
    rw [hB, ← Int.pow_add, pow2_nat]
    exact big _ (by omega)
  have hC5 : C < ((2 ^ 5000 : Nat) : Int) := by
    rw [hC, pow2_nat]
    exact big _ (by omega)
  have hB5 : B < ((2 ^ 5000 : Nat) : Int) := by
    rw [hB, pow2_nat]
    exact big _ (by omega)
  have h20 : ((2 ^ 20 : Nat) : Int) < ((2 ^ 5000 : Nat) : Int) := big 20 (by decide)
  have hC1 : (2 : Int) ^ (c - 1) ≤ C := by
    rw [hC, pow2_nat, pow2_nat]
    exact i_nat (by omega)
  have hC10 : (0 : Int) < 2 ^ (c - 1) := Int.pow_pos (by decide)
  rw [← hB] at i1
  generalize ((2 ^ 5000 : Nat) : Int) = T at *
  intro p hp
  unfold ansD at hp
  have nm : ∀ j < 14, _ := low_nm
  rcases List.mem_append.mp hp with hp | hp
  · rcases List.mem_append.mp hp with hp | hp
    · rcases List.mem_append.mp hp with hp | hp
      · rcases List.mem_append.mp hp with hp | hp
        · rcases List.mem_append.mp hp with hp | hp
          · obtain ⟨j, hj, rfl⟩ := List.mem_map.mp hp
            have hj := List.mem_range.mp hj
            exact ⟨_, _, rfl, Int.lt_of_le_of_lt (Int.ofNat_le.mpr (hb j)) h20, (nm j (by omega)).1⟩
          · obtain ⟨j, hj, rfl⟩ := List.mem_map.mp hp
            have hj := List.mem_range.mp hj
            exact ⟨_, _, rfl, Int.lt_of_le_of_lt (Int.ofNat_le.mpr (hy j)) h20, (nm j (by omega)).2.1⟩
        · unfold an8 at hp
          simp only [List.mem_cons, List.not_mem_nil, or_false] at hp
          have sn : (ss.length : Int) < T := by
            have : ss.length < 2 ^ 20 := by
              have : 1 * ss.length ≤ c * ss.length := Nat.mul_le_mul_right _ c1
              omega
            omega
          have cn : (c : Int) < T := by
            have : c < 2 ^ 20 := by omega
            omega
          rcases hp with rfl | rfl | rfl | rfl | rfl | rfl | rfl | rfl
          · exact ⟨_, _, rfl, by omega, by unfold Low; decide +kernel⟩
          · exact ⟨_, _, rfl, by omega, by unfold Low; decide +kernel⟩
          · exact ⟨_, _, rfl, by omega, by unfold Low; decide +kernel⟩
          · exact ⟨_, _, rfl, by omega, by unfold Low; decide +kernel⟩
          · exact ⟨_, _, rfl, by rw [← hC]; omega, by unfold Low; decide +kernel⟩
          · exact ⟨_, _, rfl, by rw [← hC]; omega, by unfold Low; decide +kernel⟩
          · exact ⟨_, _, rfl, by omega, by unfold Low; decide +kernel⟩
          · refine ⟨_, _, rfl, ?_, by unfold Low; decide +kernel⟩
            have h1 : ((2 : Int) ^ (c - 1) - 1) * iS c ss.length ≤ C * B := Int.mul_le_mul (by omega) (by omega) i0 (by omega)
            omega
      · obtain ⟨j, hj, rfl⟩ := List.mem_map.mp hp
        have hj := List.mem_range.mp hj
        refine ⟨_, _, rfl, ?_, (nm j (by omega)).2.2.1⟩
        obtain ⟨r0, r1⟩ := rS_bd (h := 2 ^ 20) (c := c) (j := j) (ss := ss) (fun t => by have := hc t j; omega) ss.length
        have h1 : (2 : Int) ^ 20 * iS c ss.length ≤ 2 ^ 20 * B := Int.mul_le_mul_of_nonneg_left (by omega) (by decide)
        have r1 : rS c ss j ≤ 2 ^ 20 * iS c ss.length := r1
        omega
    · obtain ⟨j, hj, rfl⟩ := List.mem_map.mp hp
      have hj := List.mem_range.mp hj
      refine ⟨_, _, rfl, ?_, (nm j (by omega)).2.2.2.1⟩
      obtain ⟨r0, r1⟩ := lS_bd (c := c) (atR ss j) ss.length
      have r1 : lS c ss j ≤ iS c ss.length := r1
      omega
  · obtain ⟨j, hj, rfl⟩ := List.mem_map.mp hp
    have hj := asked_lt j hj
    refine ⟨_, _, rfl, ?_, (nm j (by omega)).2.2.2.2⟩
    obtain ⟨r0, r1⟩ := rS_bd (h := 2 ^ 20) (c := c) (j := j) (ss := ss) (fun t => by have := hc t j; omega) ss.length
    have r0 : 0 ≤ rS c ss j := r0
    have h1 : C * iS c ss.length ≤ C * B := Int.mul_le_mul_of_nonneg_left (by omega) (by omega)
    rw [← hC]
    omega
theorem gOf_mx0 {kvs : List (Key × V)} (nd : (kvs.map (·.1)).Nodup) (z : Str) : gOf (kvs.map mx0) z = gOf kvs z := by
  unfold gOf
  cases e : valV kvs (.inr z) with
  | none =>
    have : valV (kvs.map mx0) (.inr z) = none := by
      cases e2 : valV (kvs.map mx0) (.inr z) with
      | none => rfl
      | some v =>
        have hm := valV_some e2
        obtain ⟨p, hp, ep⟩ := List.mem_map.mp hm
        have h1 := valV_nd nd hp
        have h2 : p.1 = Sum.inr z := by rw [← mx0_key p, ep]
        rw [h2, e] at h1
        cases h1
    rw [this]
  | some v =>
    have hm := valV_some e
    have nd2 : ((kvs.map mx0).map (·.1)).Nodup := by rw [mx0_keys]; exact nd
    have h1 := valV_nd nd2 (List.mem_map.mpr ⟨_, hm, rfl⟩)
    rw [mx0_key] at h1
    have h1 : valV (kvs.map mx0) (.inr z) = some (mx0 (.inr z, v)).2 := h1
    rw [h1]
    cases v with
    | int i =>
      show (max 0 i).toNat = i.toNat
      omega
    | _ => rfl
def sp_f_law_box (K : PySem.W.Frag) : Sp := fun vs H Q E => ∃ (a : Addr) (ns : List Int) (i : Int), vs = [.ref a, .int i] ∧ SqL K H a (ns.map V.int) ∧ 0 ≤ i ∧ i ≤ 100000 ∧ ∀ b H', H b = none → Sm H H' → BoxAt H' b → Q (.ref b) H'
theorem call_box {K : PySem.W.Frag} {H : Hp} {Q : VK} {E : XK} {a : Addr} {ns : List Int} {i : Int} (hS : SqL K H a (ns.map V.int)) (h0 : 0 ≤ i) (h1 : i ≤ 100000) (k : ∀ b H', H b = none → Sm H H' → BoxAt H' b → Q (.ref b) H') : sp_f_law_box K [.ref a, .int i] H Q E := ⟨a, ns, i, rfl, hS, h0, h1, k⟩
local macro_rules | `(tactic| tm_at "rs") => `(tactic| ((with_reducible refine' call_box ?h ?i ?j (fun _ _ _ _ _ => ?k)); (case h => tm_at "rsq"); (case i => omega); (case j => omega)))
def sp_f_law_take (K : PySem.W.Frag) : Sp := fun vs H Q E => ∃ (b : Addr) (w : Int), vs = [.ref b, .int w] ∧ BoxAt H b ∧ Wd w ∧ ∀ d H', 0 ≤ d → d < w → Kp b H H' → BoxAt H' b → Q (.int d) H'
theorem call_take {K : PySem.W.Frag} {H : Hp} {Q : VK} {E : XK} {b : Addr} {w : Int} (hb : BoxAt H b) (hw : Wd w) (k : ∀ d H', 0 ≤ d → d < w → Kp b H H' → BoxAt H' b → Q (.int d) H') : sp_f_law_take K [.ref b, .int w] H Q E := ⟨b, w, rfl, hb, hw, k⟩
local macro_rules | `(tactic| tm_at "rwd") => `(tactic| first | assumption | (apply wd_of <;> omega) | exact ⟨by decide, by decide +kernel⟩ | ((refine' wd_two ?wa ?wb); (case wa => with_reducible assumption); (case wb => omega)) | solve_by_elim | fail "no")
local macro_rules | `(tactic| tm_at "rs") => `(tactic| ((with_reducible refine call_take ?h ?w (fun _ _ _ _ _ _ => ?_)); (case h => tm_at "rbx"); (case w => tm_at "rwd")))
def sp_f_law_piece (K : PySem.W.Frag) : Sp := fun vs H Q E => ∃ (b : Addr) (m t : Nat), vs = [.ref b, .int (m : Int), .int (t : Int)] ∧ BoxAt H b ∧ 1 ≤ m ∧ m ≤ 5 ∧ t ≤ 100 ∧ ∀ (p : Addr) (vs : List V) (rs : List Rw) (H' : Hp), H p = none → H' p = some (.lst vs) → RwsAt H' vs rs → 1 ≤ rs.length → rs.length ≤ 6 → RwsOk m (t + rs.length + 1) rs → Kp b H H' → BoxAt H' b → Q (.ref p) H'
theorem call_piece {K : PySem.W.Frag} {H : Hp} {Q : VK} {E : XK} {b : Addr} {m t : Nat} (hB : BoxAt H b) (m1 : 1 ≤ m) (m5 : m ≤ 5) (t1 : t ≤ 100) (k : ∀ (p : Addr) (vs : List V) (rs : List Rw) (H' : Hp), H p = none → H' p = some (.lst vs) → RwsAt H' vs rs → 1 ≤ rs.length → rs.length ≤ 6 → RwsOk m (t + rs.length + 1) rs → Kp b H H' → BoxAt H' b → Q (.ref p) H') : sp_f_law_piece K [.ref b, .int (m : Int), .int (t : Int)] H Q E := ⟨b, m, t, rfl, hB, m1, m5, t1, k⟩
def sp_f_law_ending_rows (K : PySem.W.Frag) : Sp := fun vs H Q E => ∃ (b : Addr) (m : Nat), vs = [.ref b, .int (m : Int)] ∧ BoxAt H b ∧ 1 ≤ m ∧ m ≤ 5 ∧ ∀ (p : Addr) (vs : List V) (rs : List Rw) (H' : Hp), H p = none → H' p = some (.lst vs) → RwsAt H' vs rs → Prg m rs → Kp b H H' → BoxAt H' b → Q (.ref p) H'
theorem call_endingRows {K : PySem.W.Frag} {H : Hp} {Q : VK} {E : XK} {b : Addr} {m : Nat} (hB : BoxAt H b) (m1 : 1 ≤ m) (m5 : m ≤ 5) (k : ∀ (p : Addr) (vs : List V) (rs : List Rw) (H' : Hp), H p = none → H' p = some (.lst vs) → RwsAt H' vs rs → Prg m rs → Kp b H H' → BoxAt H' b → Q (.ref p) H') : sp_f_law_ending_rows K [.ref b, .int (m : Int)] H Q E := ⟨b, m, rfl, hB, m1, m5, k⟩
def sp_f_law_row (K : PySem.W.Frag) : Sp := fun vs H Q E => ∃ (b : Addr) (m n : Nat), vs = [.ref b, .int (m : Int), .int (n : Int)] ∧ BoxAt H b ∧ 1 ≤ m ∧ m ≤ 5 ∧ 1 ≤ n ∧ n ≤ 14 ∧ ∀ (p : Addr) (r : Rw) (H' : Hp), H p = none → H' p = some (.tup r.vs) → r.ok m n → Kp b H H' → BoxAt H' b → Q (.ref p) H'
theorem call_row {K : PySem.W.Frag} {H : Hp} {Q : VK} {E : XK} {b : Addr} {m n : Nat} (hB : BoxAt H b) (m1 : 1 ≤ m) (m5 : m ≤ 5) (n1 : 1 ≤ n) (n14 : n ≤ 14) (k : ∀ (p : Addr) (r : Rw) (H' : Hp), H p = none → H' p = some (.tup r.vs) → r.ok m n → Kp b H H' → BoxAt H' b → Q (.ref p) H') : sp_f_law_row K [.ref b, .int (m : Int), .int (n : Int)] H Q E := ⟨b, m, n, rfl, hB, m1, m5, n1, n14, k⟩
def sp_f_law_any_rows (K : PySem.W.Frag) : Sp := fun vs H Q E => ∃ (b : Addr) (m : Nat), vs = [.ref b, .int (m : Int)] ∧ BoxAt H b ∧ 1 ≤ m ∧ m ≤ 5 ∧ ∀ (p : Addr) (vs : List V) (rs : List Rw) (H' : Hp), H p = none → H' p = some (.lst vs) → RwsAt H' vs rs → Prg m rs → Kp b H H' → BoxAt H' b → Q (.ref p) H'
theorem call_anyRows {K : PySem.W.Frag} {H : Hp} {Q : VK} {E : XK} {b : Addr} {m : Nat} (hB : BoxAt H b) (m1 : 1 ≤ m) (m5 : m ≤ 5) (k : ∀ (p : Addr) (vs : List V) (rs : List Rw) (H' : Hp), H p = none → H' p = some (.lst vs) → RwsAt H' vs rs → Prg m rs → Kp b H H' → BoxAt H' b → Q (.ref p) H') : sp_f_law_any_rows K [.ref b, .int (m : Int)] H Q E := ⟨b, m, rfl, hB, m1, m5, k⟩
def sp_f_law_some_program (K : PySem.W.Frag) : Sp := fun vs H Q E => ∃ (b : Addr), vs = [.ref b] ∧ BoxAt H b ∧ ∀ (q p : Addr) (m : Nat) (vs : List V) (rs : List Rw) (H' : Hp), H p = none → H' q = some (.tup [.int (m : Nat), .ref p]) → H' p = some (.lst vs) → RwsAt H' vs rs → Prg m rs → Kp b H H' → BoxAt H' b → Q (.ref q) H'
theorem call_someProgram {K : PySem.W.Frag} {H : Hp} {Q : VK} {E : XK} {b : Addr} (hB : BoxAt H b) (k : ∀ (q p : Addr) (m : Nat) (vs : List V) (rs : List Rw) (H' : Hp), H p = none → H' q = some (.tup [.int (m : Nat), .ref p]) → H' p = some (.lst vs) → RwsAt H' vs rs → Prg m rs → Kp b H H' → BoxAt H' b → Q (.ref q) H') : sp_f_law_some_program K [.ref b] H Q E := ⟨b, rfl, hB, k⟩
local macro_rules | `(tactic| tm_at "rs") => `(tactic| ((with_reducible refine call_someProgram ?h (fun _ _ _ _ _ _ _ _ _ _ _ _ _ => ?_)); (case h => tm_at "rbx")))
def sp_f_law_begin (K : PySem.W.Frag) : Sp := fun vs H Q E => ∃ (b : Addr) (m : Nat), vs = [.ref b, .int (m : Nat)] ∧ BoxAt H b ∧ 1 ≤ m ∧ m ≤ 5 ∧ ∀ (p : Addr) (cs : List Nat) (H' : Hp), H p = none → H' p = some (.lst (nV cs)) → cs.length = m → (∀ c ∈ cs, c ≤ 500) → Kp b H H' → BoxAt H' b → Q (.ref p) H'
theorem call_begin {K : PySem.W.Frag} {H : Hp} {Q : VK} {E : XK} {b : Addr} {m : Nat} (hB : BoxAt H b) (m1 : 1 ≤ m) (m5 : m ≤ 5) (k : ∀ (p : Addr) (cs : List Nat) (H' : Hp), H p = none → H' p = some (.lst (nV cs)) → cs.length = m → (∀ c ∈ cs, c ≤ 500) → Kp b H H' → BoxAt H' b → Q (.ref p) H') : sp_f_law_begin K [.ref b, .int (m : Nat)] H Q E := ⟨b, m, rfl, hB, m1, m5, k⟩
def sp_f_law_after (K : PySem.W.Frag) : Sp := fun vs H Q E => ∃ (a : Addr) (z : V) (m k : Nat) (cs : List Nat) (us : List V) (rs : List Rw), vs = [.ref a, z] ∧ (SqL K H a us ∨ SqT K H a us) ∧ RwsAt H us rs ∧ StdAt H z k cs ∧ Prg m rs ∧ k < rs.length ∧ cs.length = m ∧ ∀ u H', Sm H H' → OStd H' u (aftr rs k cs) → Q u H'
theorem call_after {K : PySem.W.Frag} {H : Hp} {Q : VK} {E : XK} {a : Addr} {z : V} {m k : Nat} {cs : List Nat} {us : List V} {rs : List Rw} (ha : SqL K H a us ∨ SqT K H a us) (hr : RwsAt H us rs) (hz : StdAt H z k cs) (hg : Prg m rs) (hk : k < rs.length) (hc : cs.length = m) (kk : ∀ u H', Sm H H' → OStd H' u (aftr rs k cs) → Q u H') : sp_f_law_after K [.ref a, z] H Q E := ⟨a, z, m, k, cs, us, rs, rfl, ha, hr, hz, hg, hk, hc, kk⟩
theorem call_afterN {K : PySem.W.Frag} {H : Hp} {Q : VK} {E : XK} {a : Addr} {z : V} {m k : Nat} {cs : List Nat} {vs : List V} {rs : List Rw} (ha : SqL K H a vs ∨ SqT K H a vs) (hr : RwsAt H vs rs) (hz : StdAt H z k cs) (hg : Prg m rs) (hk : k < rs.length) (hc : cs.length = m) (hA : aftr rs k cs = none) (kk : ∀ H', Sm H H' → Q .non H') : sp_f_law_after K [.ref a, z] H Q E := call_after ha hr hz hg hk hc fun u H' s o => by
  rw [hA] at o
  have o : u = .non := o
  subst o
  exact kk H' s
theorem call_afterS {K : PySem.W.Frag} {H : Hp} {Q : VK} {E : XK} {a : Addr} {z : V} {m k : Nat} {cs : List Nat} {vs : List V} {rs : List Rw} (ha : SqL K H a vs ∨ SqT K H a vs) (hr : RwsAt H vs rs) (hz : StdAt H z k cs) (hg : Prg m rs) (hk : k < rs.length) (hc : cs.length = m) {s : Nat × List Nat} (hA : aftr rs k cs = some s) (kk : ∀ p H', Sm H H' → StdAt H' (.ref p) s.1 s.2 → Q (.ref p) H') : sp_f_law_after K [.ref a, z] H Q E := call_after ha hr hz hg hk hc fun u H' s o => by
  rw [hA] at o
  obtain ⟨p, t, rfl, h1, h2⟩ := id o
  exact kk p H' s ⟨p, t, rfl, h1, h2⟩
local macro_rules | `(tactic| tm_at "rs") => `(tactic| first | ((with_reducible refine' call_after ?a ?f ?b ?c ?d ?e (fun _ _ _ _ => ?k)); (case a => exact .inl (by tm_at "rsq")); (case f => tm_at "rrw"); (case b => tm_at "rstd"); (case c => assumption); (case d => assumption); (case e => assumption)) | fail "no")
local macro_rules | `(tactic| tm_at "rs") => `(tactic| first | ((with_reducible refine' call_afterS ?a ?f ?b ?c ?d ?e ?g (fun _ _ _ _ => ?k)); (case a => exact .inl (by tm_at "rsq")); (case f => tm_at "rrw"); (case b => tm_at "rstd"); (case c => assumption); (case d => assumption); (case e => assumption); (case g => assumption)) | fail "no")
local macro_rules | `(tactic| tm_at "rs") => `(tactic| first | ((with_reducible refine' call_afterN ?a ?f ?b ?c ?d ?e ?g (fun _ _ => ?k)); (case a => exact .inl (by tm_at "rsq")); (case f => tm_at "rrw"); (case b => tm_at "rstd"); (case c => assumption); (case d => assumption); (case e => assumption); (case g => assumption)) | fail "no")
def sp_f_law_run (K : PySem.W.Frag) : Sp := fun vs H Q E => ∃ (a bp : Addr) (m M : Nat) (us : List V) (bs : List Nat) (rs : List Rw), vs = [.ref a, .ref bp, .int (M : Nat)] ∧ H a = some (.lst us) ∧ RwsAt H us rs ∧ (H bp = some (.lst (nV bs)) ∨ H bp = some (.tup (nV bs))) ∧ Prg m rs ∧ bs.length = m ∧ M ≤ 1000 ∧ ∀ t L xs pre last H', H L = none → Sm H H' → H' t = some (.tup [.str (wordR rs last), .ref L]) → H' L = some (.lst xs) → SdL H' xs (pre ++ [last]) → runL rs M (0, bs) = pre ++ [last] → Q (.ref t) H'
theorem call_run {K : PySem.W.Frag} {H : Hp} {Q : VK} {E : XK} {a bp : Addr} {m M : Nat} {us : List V} {bs : List Nat} {rs : List Rw} (ha : H a = some (.lst us)) (hr : RwsAt H us rs) (hb : H bp = some (.lst (nV bs)) ∨ H bp = some (.tup (nV bs))) (hg : Prg m rs) (hl : bs.length = m) (hM : M ≤ 1000) (k : ∀ t L xs pre last H', H L = none → Sm H H' → H' t = some (.tup [.str (wordR rs last), .ref L]) → H' L = some (.lst xs) → SdL H' xs (pre ++ [last]) → runL rs M (0, bs) = pre ++ [last] → Q (.ref t) H') : sp_f_law_run K [.ref a, .ref bp, .int (M : Nat)] H Q E := ⟨a, bp, m, M, us, bs, rs, rfl, ha, hr, hb, hg, hl, hM, k⟩
def sp_f_law_stopping (K : PySem.W.Frag) : Sp := fun vs H Q E => ∃ (b : Addr) (M : Nat), vs = [.ref b, .int (M : Nat)] ∧ BoxAt H b ∧ M ≤ 200 ∧ ∀ (t p bp q : Addr) (m : Nat) (rs : List Rw) (bs : List Nat) (ss : List (Nat × List Nat)) (H' : Hp), H p = none → H bp = none → H q = none → p ≠ bp → bp ≠ q → p ≠ q → H' t = some (.tup [.int (m : Nat), .ref p, .ref bp, .ref q]) → Stp4 H' p bp q m rs bs ss → StpOk m rs bs ss M → Kp b H H' → BoxAt H' b → Q (.ref t) H'
theorem call_stopping {K : PySem.W.Frag} {H : Hp} {Q : VK} {E : XK} {b : Addr} {M : Nat} (hB : BoxAt H b) (hM : M ≤ 200) (k : ∀ (t p bp q : Addr) (m : Nat) (rs : List Rw) (bs : List Nat) (ss : List (Nat × List Nat)) (H' : Hp), H p = none → H bp = none → H q = none → p ≠ bp → bp ≠ q → p ≠ q → H' t = some (.tup [.int (m : Nat), .ref p, .ref bp, .ref q]) → Stp4 H' p bp q m rs bs ss → StpOk m rs bs ss M → Kp b H H' → BoxAt H' b → Q (.ref t) H') : sp_f_law_stopping K [.ref b, .int (M : Nat)] H Q E := ⟨b, M, rfl, hB, hM, k⟩
def sp_f_is_whole (K : PySem.W.Frag) : Sp := fun vs H Q E => ∃ (i : Int), vs = [.int i] ∧ ∀ H', Sm H H' → Q (.bl true) H'
theorem call_isWhole {K : PySem.W.Frag} {H : Hp} {Q : VK} {E : XK} {i : Int} (k : ∀ H', Sm H H' → Q (.bl true) H') : sp_f_is_whole K [.int i] H Q E := ⟨i, rfl, k⟩
local macro_rules | `(tactic| tm_at "rs") => `(tactic| (with_reducible refine call_isWhole (fun _ _ => ?_)))
def sp_f_is_formed (K : PySem.W.Frag) : Sp := fun vs H Q E => ∃ (p : Addr) (r : Rw), vs = [.ref p] ∧ H p = some (.tup r.vs) ∧ ∀ H', Sm H H' → Q (.bl true) H'
theorem call_isFormed {K : PySem.W.Frag} {H : Hp} {Q : VK} {E : XK} {p : Addr} {r : Rw} (hp : H p = some (.tup r.vs)) (k : ∀ H', Sm H H' → Q (.bl true) H') : sp_f_is_formed K [.ref p] H Q E := ⟨p, r, rfl, hp, k⟩
def sp_f_check_row (K : PySem.W.Frag) : Sp := fun vs H Q E => ∃ (p : Addr) (r : Rw) (m n t : Nat), vs = [.ref p, .int (m : Nat), .int (n : Nat), .int (t : Nat)] ∧ H p = some (.tup r.vs) ∧ r.ok m n ∧ ∀ H', Sm H H' → Q .non H'
theorem call_checkRow {K : PySem.W.Frag} {H : Hp} {Q : VK} {E : XK} {p : Addr} {r : Rw} {m n t : Nat} (hp : H p = some (.tup r.vs)) (ho : r.ok m n) (k : ∀ H', Sm H H' → Q .non H') : sp_f_check_row K [.ref p, .int (m : Nat), .int (n : Nat), .int (t : Nat)] H Q E := ⟨p, r, m, n, t, rfl, hp, ho, k⟩
def sp_f_check (K : PySem.W.Frag) : Sp := fun vs H Q E => ∃ (m : Nat) (a : Addr) (us : List V) (rs : List Rw), vs = [.int (m : Nat), .ref a] ∧ (H a = some (.lst us) ∨ H a = some (.tup us)) ∧ RwsAt H us rs ∧ Prg m rs ∧ ∀ H', Sm H H' → Q .non H'
theorem call_check {K : PySem.W.Frag} {H : Hp} {Q : VK} {E : XK} {m : Nat} {a : Addr} {us : List V} {rs : List Rw} (ha : H a = some (.lst us)) (hr : RwsAt H us rs) (hp : Prg m rs) (k : ∀ H', Sm H H' → Q .non H') : sp_f_check K [.int (m : Nat), .ref a] H Q E := ⟨m, a, us, rs, rfl, .inl ha, hr, hp, k⟩
theorem call_checkT {K : PySem.W.Frag} {H : Hp} {Q : VK} {E : XK} {m : Nat} {a : Addr} {us : List V} {rs : List Rw} (ha : H a = some (.tup us)) (hr : RwsAt H us rs) (hp : Prg m rs) (k : ∀ H', Sm H H' → Q .non H') : sp_f_check K [.int (m : Nat), .ref a] H Q E := ⟨m, a, us, rs, rfl, .inr ha, hr, hp, k⟩
def sp_f_Program__init (K : PySem.W.Frag) : Sp := fun vs H Q E => ∃ (p C dx : Addr) (m : Nat) (a : Addr) (us : List V) (rs : List Rw), vs = [.ref p, .int (m : Nat), .ref a] ∧ H p = some (.ins C dx []) ∧ PrC K C ∧ (H a = some (.lst us) ∨ H a = some (.tup us)) ∧ RwsAt H us rs ∧ Prg m rs ∧ ∀ H' t, Kp p H H' → H' p = some (.ins C dx [("boxes", .int (m : Nat)), ("rows", .ref t)]) → H' t = some (.tup us) → Q .non H'
theorem mk_prog {K : PySem.W.Frag} {H : Hp} {Q : VK} {E : XK} {C : Addr} {m : Nat} {a : Addr} {us : List V} {rs : List Rw} (hC : PrC K C) (ha : H a = some (.lst us)) (hr : RwsAt H us rs) (hg : Prg m rs) (k : ∀ p H', H p = none → Sm H H' → PrgAt K H' (.ref p) m rs → Q (.ref p) H') : MkE C (sp_f_Program__init K) Q E [.int (m : Nat), .ref a] H := fun x dx hx hd ne =>
  have s0 : Sm H (upd (upd H dx (.own x)) x (.ins C dx [])) := fun b o h => by rw [upd_ne (ne_of_none h hx), upd_ne (ne_of_none h hd)]; exact h
  ⟨x, C, dx, m, a, us, rs, rfl, upd_same, hC, .inl (s0 _ _ ha), hr.tk (Tk.sm s0), hg, fun H' t kp g gt =>
    have s1 : Sm H H' := fun b o h => kp b o (ne_of_none h hx) (s0 _ _ h)
    ⟨rfl, k x H' hx s1 ⟨x, C, dx, t, us, rfl, hC, g, gt, hr.tk (Tk.sm s1)⟩⟩⟩
def sp_f_Program__len (K : PySem.W.Frag) : Sp := fun vs H Q E => ∃ (v : V) (m : Nat) (rs : List Rw), vs = [v] ∧ PrgAt K H v m rs ∧ Q (.int (rs.length : Nat)) H
theorem len_prog {K : PySem.W.Frag} {H : Hp} {Q : VK} {E : XK} {C : Addr} {v : V} {m : Nat} {rs : List Rw} (hv : PrgAt K H v m rs) (hC : PrC K C) (l : rs.length ≤ 1000) (k : Q (.int (rs.length : Nat)) H) : rUnO C (sp_f_Program__len K) E IsLen [v] H Q := by
  obtain ⟨p, D, dx, t, vs, rfl, c, q, _⟩ := id hv
  obtain rfl := ClsN.uniq c hC
  exact w_unO q ⟨_, m, rs, rfl, hv, ⟨_, rfl, by omega, by omega⟩, k⟩
local macro_rules | `(tactic| tm_at "rs") => `(tactic| ((with_reducible refine' len_prog ?h ?i ?j ?k); (case h => tm_at "rpg"); (case i => assumption); (case j => omega)))
def sp_f_c_for (K : PySem.W.Frag) : Sp := fun vs H Q E => ∃ (v : V) (p : Addr) (m M : Nat) (rs : List Rw) (xs : List V) (ss : List (Nat × List Nat)), vs = [v, .ref p] ∧ PrgAt K H v m rs ∧ rs.length ≤ 14 ∧ H p = some (.lst xs) ∧ SdL H xs ss ∧ ss ≠ [] ∧ ss.length ≤ 1000 ∧ SdBd ss 100000 ∧ ∀ H', Sm H H' → Q (.int (cL (grt ss) rs.length : Nat)) H'
theorem call_cFor {K : PySem.W.Frag} {H : Hp} {Q : VK} {E : XK} {v : V} {p : Addr} {m : Nat} {rs : List Rw} {xs : List V} {ss : List (Nat × List Nat)} (hv : PrgAt K H v m rs) (hl : rs.length ≤ 14) (hp : H p = some (.lst xs)) (hx : SdL H xs ss) (hne : ss ≠ []) (hsl : ss.length ≤ 1000) (hb : SdBd ss 100000) (k : ∀ H', Sm H H' → Q (.int (cL (grt ss) rs.length : Nat)) H') : sp_f_c_for K [v, .ref p] H Q E := ⟨v, p, m, 0, rs, xs, ss, rfl, hv, hl, hp, hx, hne, hsl, hb, k⟩
def sp_f_with_more (K : PySem.W.Frag) : Sp := fun vs H Q E => ∃ (t : Addr) (cs : List Nat) (j : Nat) (d : Int) (c : Nat), vs = [.ref t, .int (j : Nat), .int d] ∧ H t = some (.tup (nV cs)) ∧ j < cs.length ∧ cs.length ≤ 5 ∧ (cs.getD j 0 : Int) + d = (c : Nat) ∧ ∀ p H', Sm H H' → H' p = some (.tup (nV (cs.set j c))) → Q (.ref p) H'
theorem call_withMore {K : PySem.W.Frag} {H : Hp} {Q : VK} {E : XK} {t : Addr} {cs : List Nat} {j : Nat} {d : Int} {c : Nat} (ht : H t = some (.tup (nV cs))) (hj : j < cs.length) (hl : cs.length ≤ 5) (hc : (cs.getD j 0 : Int) + d = (c : Nat)) (k : ∀ p H', Sm H H' → H' p = some (.tup (nV (cs.set j c))) → Q (.ref p) H') : sp_f_with_more K [.ref t, .int (j : Nat), .int d] H Q E := ⟨t, cs, j, d, c, rfl, ht, hj, hl, hc, k⟩
def sp_f_goal_of (K : PySem.W.Frag) : Sp := fun vs H Q E => ∃ (v : V) (k m : Nat) (rs : List Rw) (r : Rw), vs = [v, .int (k : Nat)] ∧ PrgAt K H v m rs ∧ rs[k]? = some r ∧ ∀ H', Sm H H' → Q r.gv H'
theorem call_goalOf {K : PySem.W.Frag} {H : Hp} {Q : VK} {E : XK} {v : V} {k m : Nat} {rs : List Rw} {r : Rw} (hv : PrgAt K H v m rs) (hk : rs[k]? = some r) (kk : ∀ H', Sm H H' → Q r.gv H') : sp_f_goal_of K [v, .int (k : Nat)] H Q E := ⟨v, k, m, rs, r, rfl, hv, hk, kk⟩
local macro_rules | `(tactic| tm_at "rs") => `(tactic| ((with_reducible refine' call_goalOf ?h ?i (fun _ _ => ?k)); (case h => tm_at "rpg"); (case i => assumption)))
def sp_f_step_from (K : PySem.W.Frag) : Sp := fun vs H Q E => ∃ (v z : V) (m k : Nat) (cs : List Nat) (rs : List Rw), vs = [v, z] ∧ PrgAt K H v m rs ∧ StdAt H z k cs ∧ Prg m rs ∧ k < rs.length ∧ cs.length = m ∧ ∀ u H', Sm H H' → OStd H' u (aftr rs k cs) → Q u H'
theorem call_stepFrom {K : PySem.W.Frag} {H : Hp} {Q : VK} {E : XK} {v z : V} {m k : Nat} {cs : List Nat} {rs : List Rw} (hv : PrgAt K H v m rs) (hz : StdAt H z k cs) (hg : Prg m rs) (hk : k < rs.length) (hc : cs.length = m) (kk : ∀ u H', Sm H H' → OStd H' u (aftr rs k cs) → Q u H') : sp_f_step_from K [v, z] H Q E := ⟨v, z, m, k, cs, rs, rfl, hv, hz, hg, hk, hc, kk⟩
theorem call_stepFromN {K : PySem.W.Frag} {H : Hp} {Q : VK} {E : XK} {v z : V} {m k : Nat} {cs : List Nat} {rs : List Rw} (hv : PrgAt K H v m rs) (hz : StdAt H z k cs) (hg : Prg m rs) (hk : k < rs.length) (hc : cs.length = m) (hA : aftr rs k cs = none) (kk : ∀ H', Sm H H' → Q .non H') : sp_f_step_from K [v, z] H Q E := call_stepFrom hv hz hg hk hc fun u H' s o => by
  rw [hA] at o
  have o : u = .non := o
  subst o
  exact kk H' s
theorem call_stepFromS {K : PySem.W.Frag} {H : Hp} {Q : VK} {E : XK} {v z : V} {m k : Nat} {cs : List Nat} {rs : List Rw} (hv : PrgAt K H v m rs) (hz : StdAt H z k cs) (hg : Prg m rs) (hk : k < rs.length) (hc : cs.length = m) {s : Nat × List Nat} (hA : aftr rs k cs = some s) (kk : ∀ p H', Sm H H' → StdAt H' (.ref p) s.1 s.2 → Q (.ref p) H') : sp_f_step_from K [v, z] H Q E := call_stepFrom hv hz hg hk hc fun u H' s o => by
  rw [hA] at o
  obtain ⟨p, t, rfl, h1, h2⟩ := id o
  exact kk p H' s ⟨p, t, rfl, h1, h2⟩
local macro_rules | `(tactic| tm_at "rs") => `(tactic| first | ((with_reducible refine' call_stepFrom ?a ?b ?c ?d ?e (fun _ _ _ _ => ?k)); (case a => tm_at "rpg"); (case b => tm_at "rstd"); (case c => assumption); (case d => assumption); (case e => assumption)) | fail "no")
local macro_rules | `(tactic| tm_at "rs") => `(tactic| first | ((with_reducible refine' call_stepFromS ?a ?b ?c ?d ?e ?g (fun _ _ _ _ => ?k)); (case a => tm_at "rpg"); (case b => tm_at "rstd"); (case c => assumption); (case d => assumption); (case e => assumption); (case g => assumption)) | fail "no")
local macro_rules | `(tactic| tm_at "rs") => `(tactic| first | ((with_reducible refine' call_stepFromN ?a ?b ?c ?d ?e ?g (fun _ _ => ?k)); (case a => tm_at "rpg"); (case b => tm_at "rstd"); (case c => assumption); (case d => assumption); (case e => assumption); (case g => assumption)) | fail "no")
def sp_f_ran (K : PySem.W.Frag) : Sp := fun vs H Q E => ∃ (v : V) (bp : Addr) (m M : Nat) (bs : List Nat) (rs : List Rw), vs = [v, .ref bp, .int (M : Nat)] ∧ PrgAt K H v m rs ∧ (H bp = some (.lst (nV bs)) ∨ H bp = some (.tup (nV bs))) ∧ Prg m rs ∧ bs.length = m ∧ M ≤ 1000 ∧ ∀ t L xs pre last H', H L = none → Sm H H' → H' t = some (.tup [.str (wordR rs last), .ref L]) → H' L = some (.lst xs) → SdL H' xs (pre ++ [last]) → runL rs M (0, bs) = pre ++ [last] → Q (.ref t) H'
theorem call_ran {K : PySem.W.Frag} {H : Hp} {Q : VK} {E : XK} {v : V} {bp : Addr} {m M : Nat} {bs : List Nat} {rs : List Rw} (hv : PrgAt K H v m rs) (hb : H bp = some (.lst (nV bs)) ∨ H bp = some (.tup (nV bs))) (hg : Prg m rs) (hl : bs.length = m) (hM : M ≤ 1000) (k : ∀ t L xs pre last H', H L = none → Sm H H' → H' t = some (.tup [.str (wordR rs last), .ref L]) → H' L = some (.lst xs) → SdL H' xs (pre ++ [last]) → runL rs M (0, bs) = pre ++ [last] → Q (.ref t) H') : sp_f_ran K [v, .ref bp, .int (M : Nat)] H Q E := ⟨v, bp, m, M, bs, rs, rfl, hv, hb, hg, hl, hM, k⟩
def sp_f_stopped_run (K : PySem.W.Frag) : Sp := fun vs H Q E => ∃ (v : V) (bp : Addr) (m M : Nat) (bs : List Nat) (rs : List Rw), vs = [v, .ref bp, .int (M : Nat)] ∧ PrgAt K H v m rs ∧ (H bp = some (.lst (nV bs)) ∨ H bp = some (.tup (nV bs))) ∧ Prg m rs ∧ bs.length = m ∧ M ≤ 1000 ∧ (∀ pre last, runL rs M (0, bs) = pre ++ [last] → rs[last.1]? = some .st) ∧ ∀ L xs H', H L = none → Sm H H' → H' L = some (.lst xs) → SdL H' xs (runL rs M (0, bs)) → Q (.ref L) H'
theorem call_stoppedRun {K : PySem.W.Frag} {H : Hp} {Q : VK} {E : XK} {v : V} {bp : Addr} {m M : Nat} {bs : List Nat} {rs : List Rw} (hv : PrgAt K H v m rs) (hb : H bp = some (.lst (nV bs)) ∨ H bp = some (.tup (nV bs))) (hg : Prg m rs) (hl : bs.length = m) (hM : M ≤ 1000) (hst : ∀ pre last, runL rs M (0, bs) = pre ++ [last] → rs[last.1]? = some .st) (k : ∀ L xs H', H L = none → Sm H H' → H' L = some (.lst xs) → SdL H' xs (runL rs M (0, bs)) → Q (.ref L) H') : sp_f_stopped_run K [v, .ref bp, .int (M : Nat)] H Q E := ⟨v, bp, m, M, bs, rs, rfl, hv, hb, hg, hl, hM, hst, k⟩
def sp_f_least_c (K : PySem.W.Frag) : Sp := fun vs H Q E => ∃ (v : V) (bp : Addr) (m M : Nat) (bs : List Nat) (rs : List Rw), vs = [v, .ref bp, .int (M : Nat)] ∧ PrgAt K H v m rs ∧ (H bp = some (.lst (nV bs)) ∨ H bp = some (.tup (nV bs))) ∧ Prg m rs ∧ bs.length = m ∧ (∀ c ∈ bs, c ≤ 1000) ∧ M ≤ 999 ∧ StpR rs M bs ∧ ∀ H', Sm H H' → Q (.int (cL (grt (runL rs M (0, bs))) rs.length : Nat)) H'
theorem call_leastOf {K : PySem.W.Frag} {H : Hp} {Q : VK} {E : XK} {v : V} {bp : Addr} {m M : Nat} {bs : List Nat} {rs : List Rw} (hv : PrgAt K H v m rs) (hb : H bp = some (.lst (nV bs)) ∨ H bp = some (.tup (nV bs))) (hg : Prg m rs) (hl : bs.length = m) (hc : ∀ c ∈ bs, c ≤ 1000) (hM : M ≤ 999) (hst : StpR rs M bs) (k : ∀ H', Sm H H' → Q (.int (cL (grt (runL rs M (0, bs))) rs.length : Nat)) H') : sp_f_least_c K [v, .ref bp, .int (M : Nat)] H Q E := ⟨v, bp, m, M, bs, rs, rfl, hv, hb, hg, hl, hc, hM, hst, k⟩
def sp_f_sum_of (K : PySem.W.Frag) : Sp := fun vs H Q E => ∃ (p : Addr) (xs : List V) (ts : List Tm), vs = [.ref p] ∧ (H p = some (.lst xs) ∨ H p = some (.tup xs)) ∧ TmsAt K H xs ts ∧ ∀ v H', Sm H H' → TmAt K H' (sumT ts) v → Q v H'
theorem call_sumOf {K : PySem.W.Frag} {H : Hp} {Q : VK} {E : XK} {p : Addr} {xs : List V} {ts : List Tm} (hp : H p = some (.lst xs)) (hx : TmsAt K H xs ts) (k : ∀ v H', Sm H H' → TmAt K H' (sumT ts) v → Q v H') : sp_f_sum_of K [.ref p] H Q E := ⟨p, xs, ts, rfl, .inl hp, hx, k⟩
def sp_f_named (K : PySem.W.Frag) : Sp := fun vs H Q E => ∃ (c : Str) (n : V) (z : Str), vs = [.str c, n] ∧ (n = .str "" ∧ z = c ∨ ∃ j : Nat, n = .int (j : Nat) ∧ j < 1000 ∧ z = nmS c j) ∧ c.length ≤ 10 ∧ ∀ p H', H p = none → Sm H H' → TmAt K H' (.name z) (.ref p) → Q (.ref p) H'
theorem call_nm0 {K : PySem.W.Frag} {H : Hp} {Q : VK} {E : XK} {c : Str} (hc : c.length ≤ 10) (k : ∀ p H', H p = none → Sm H H' → TmAt K H' (.name c) (.ref p) → Q (.ref p) H') : sp_f_named K [.str c, .str ""] H Q E := ⟨c, _, c, rfl, .inl ⟨rfl, rfl⟩, hc, k⟩
theorem call_nmJ {K : PySem.W.Frag} {H : Hp} {Q : VK} {E : XK} {c : Str} {i : Int} {j : Nat} (e : i = (j : Nat)) (hj : j < 1000) (hc : c.length ≤ 10) (k : ∀ p H', H p = none → Sm H H' → TmAt K H' (.name (nmS c j)) (.ref p) → Q (.ref p) H') : sp_f_named K [.str c, .int i] H Q E := ⟨c, _, nmS c j, rfl, .inr ⟨j, by rw [e], hj, rfl⟩, hc, k⟩
local macro_rules | `(tactic| tm_at "rs") => `(tactic| first | ((with_reducible refine' call_nmJ ?e ?i ?h (fun _ _ _ _ _ => ?k)); (case e => rfl); (case h => decide); (case i => omega)) | fail "no")
local macro_rules | `(tactic| tm_at "rs") => `(tactic| first | ((with_reducible refine' call_nm0 ?h (fun _ _ _ _ _ => ?k)); (case h => decide)) | fail "no")
def sp_f_Saying__init (K : PySem.W.Frag) : Sp := fun vs H Q E => ∃ (p C dx : Addr) (w : Str) (l r : V), vs = [.ref p, .str w, l, r] ∧ H p = some (.ins C dx []) ∧ SayC K C ∧ (w = "same" ∨ w = "under") ∧ ∀ H', Kp p H H' → H' p = some (.ins C dx [("word", .str w), ("left", l), ("right", r)]) → Q .non H'
theorem mk_say {K : PySem.W.Frag} {H : Hp} {Q : VK} {E : XK} {C : Addr} {w : Str} {l r : V} (hC : SayC K C) (hw : w = "same" ∨ w = "under") (k : ∀ p H', H p = none → Sm H H' → SayAt K H' (.ref p) w l r → Q (.ref p) H') : MkE C (sp_f_Saying__init K) Q E [.str w, l, r] H := fun x dx hx hd ne => ⟨x, C, dx, w, l, r, rfl, upd_same, hC, hw, fun H' kp g => ⟨rfl, k x H' hx (fun a o h => kp a o (ne_of_none h hx) (by rw [upd_ne (ne_of_none h hx), upd_ne (ne_of_none h hd)]; exact h)) ⟨x, C, dx, rfl, hC, g⟩⟩⟩
def sp_f_power_at (K : PySem.W.Frag) : Sp := fun vs H Q E => ∃ (v : V) (t : Tm), vs = [v] ∧ TmAt K H t v ∧ ∀ p H', Sm H H' → TmAt K H' (pwAt t) p → Q p H'
theorem call_powerAt {K : PySem.W.Frag} {H : Hp} {Q : VK} {E : XK} {v : V} {t : Tm} (hv : TmAt K H t v) (k : ∀ p H', Sm H H' → TmAt K H' (pwAt t) p → Q p H') : sp_f_power_at K [v] H Q E := ⟨v, t, rfl, hv, k⟩
local macro_rules | `(tactic| tm_at "rs") => `(tactic| ((with_reducible refine' call_powerAt ?h (fun _ _ _ _ => ?k)); (case h => tm_at "rtm")))
def sp_f_top (K : PySem.W.Frag) : Sp := fun vs H Q E => vs = [] ∧ ∀ p H', Sm H H' → TmAt K H' topT p → Q p H'
theorem call_top {K : PySem.W.Frag} {H : Hp} {Q : VK} {E : XK} (k : ∀ p H', Sm H H' → TmAt K H' topT p → Q p H') : sp_f_top K [] H Q E := ⟨rfl, k⟩
local macro_rules | `(tactic| tm_at "rs") => `(tactic| with_reducible refine call_top (fun _ _ _ _ => ?_))
def sp_f_base_sayings (K : PySem.W.Frag) : Sp := fun vs H Q E => ∃ (v : V) (m : Nat) (rs : List Rw), vs = [v] ∧ PrgAt K H v m rs ∧ m ≤ 5 ∧ rs.length ≤ 14 ∧ ∀ q xs H', H q = none → Sm H H' → H' q = some (.lst xs) → SysAt K H' xs (baseS m rs.length) → Q (.ref q) H'
theorem call_baseS {K : PySem.W.Frag} {H : Hp} {Q : VK} {E : XK} {v : V} {m : Nat} {rs : List Rw} (hv : PrgAt K H v m rs) (hm : m ≤ 5) (hl : rs.length ≤ 14) (k : ∀ q xs H', H q = none → Sm H H' → H' q = some (.lst xs) → SysAt K H' xs (baseS m rs.length) → Q (.ref q) H') : sp_f_base_sayings K [v] H Q E := ⟨v, m, rs, rfl, hv, hm, hl, k⟩
theorem mk_sy {K : PySem.W.Frag} {H : Hp} {Q : VK} {E : XK} {C : Addr} {w : Str} {l r : V} {a b : Tm} (hC : SayC K C) (hw : w = "same" ∨ w = "under") (ha : TmAt K H a l) (hb : TmAt K H b r) (k : ∀ p H', H p = none → Sm H H' → SyAt K H' (.ref p) (w, a, b) → Q (.ref p) H') : MkE C (sp_f_Saying__init K) Q E [.str w, l, r] H :=
  mk_say hC hw fun p H' np sm h => k p H' np sm ⟨l, r, h, ha.sm sm, hb.sm sm⟩
local macro_rules | `(tactic| tm_at "rs") => `(tactic| ((with_reducible refine' mk_sy ?c ?w ?h ?i (fun _ _ _ _ _ => ?k)); (case c => assumption); (case w => first | exact .inl rfl | exact .inr rfl); (case h => tm_at "rtm"); (case i => tm_at "rtm")))
def sp_f_asked_boxes (K : PySem.W.Frag) : Sp := fun vs H Q E => ∃ (v : V) (m : Nat) (rs : List Rw), vs = [v] ∧ PrgAt K H v m rs ∧ RwsOk m rs.length rs ∧ rs.length ≤ 14 ∧ ∀ p H', H p = none → Sm H H' → H' p = some (.lst (nV (asked m rs))) → Q (.ref p) H'
theorem call_askedBoxes {K : PySem.W.Frag} {H : Hp} {Q : VK} {E : XK} {v : V} {m : Nat} {rs : List Rw} (hv : PrgAt K H v m rs) (ho : RwsOk m rs.length rs) (hl : rs.length ≤ 14) (k : ∀ p H', H p = none → Sm H H' → H' p = some (.lst (nV (asked m rs))) → Q (.ref p) H') : sp_f_asked_boxes K [v] H Q E := ⟨v, m, rs, rfl, hv, ho, hl, k⟩
def sp_f_rows_named (K : PySem.W.Frag) : Sp := fun vs H Q E => ∃ (p : Addr) (l : List Nat), vs = [.ref p] ∧ H p = some (.lst (nV l)) ∧ l.length ≤ 100 ∧ (∀ n ∈ l, n < 1000) ∧ ∀ q xs H', H q = none → Sm H H' → H' q = some (.lst xs) → TmsAt K H' xs (lsT l) → Q (.ref q) H'
theorem call_rowsNamed {K : PySem.W.Frag} {H : Hp} {Q : VK} {E : XK} {p : Addr} {l : List Nat} (hp : H p = some (.lst (nV l))) (hl : l.length ≤ 100) (hn : ∀ n ∈ l, n < 1000) (k : ∀ q xs H', H q = none → Sm H H' → H' q = some (.lst xs) → TmsAt K H' xs (lsT l) → Q (.ref q) H') : sp_f_rows_named K [.ref p] H Q E := ⟨p, l, rfl, hp, hl, hn, k⟩
def sp_f_time_sayings (K : PySem.W.Frag) : Sp := fun vs H Q E => ∃ (v : V) (m : Nat) (rs : List Rw), vs = [v] ∧ PrgAt K H v m rs ∧ m ≤ 5 ∧ RwsOk m rs.length rs ∧ rs.length ≤ 14 ∧ ∀ q xs H', H q = none → Sm H H' → H' q = some (.lst xs) → SysAt K H' xs (timeS m rs) → Q (.ref q) H'
theorem call_timeS {K : PySem.W.Frag} {H : Hp} {Q : VK} {E : XK} {v : V} {m : Nat} {rs : List Rw} (hv : PrgAt K H v m rs) (hm : m ≤ 5) (ho : RwsOk m rs.length rs) (hl : rs.length ≤ 14) (k : ∀ q xs H', H q = none → Sm H H' → H' q = some (.lst xs) → SysAt K H' xs (timeS m rs) → Q (.ref q) H') : sp_f_time_sayings K [v] H Q E := ⟨v, m, rs, rfl, hv, hm, ho, hl, k⟩
def sp_f_row_sayings (K : PySem.W.Frag) : Sp := fun vs H Q E => ∃ (v : V) (m j : Nat) (rs : List Rw) (r : Rw), vs = [v, .int (j : Nat)] ∧ PrgAt K H v m rs ∧ rs[j]? = some r ∧ m ≤ 5 ∧ RwsOk m 14 rs ∧ rs.length ≤ 14 ∧ ∀ q xs H', H q = none → Sm H H' → H' q = some (.lst xs) → SysAt K H' xs (rowS rs j) → Q (.ref q) H'
theorem call_rowS {K : PySem.W.Frag} {H : Hp} {Q : VK} {E : XK} {v : V} {m j : Nat} {rs : List Rw} {r : Rw} (hv : PrgAt K H v m rs) (hj : rs[j]? = some r) (hm : m ≤ 5) (ho : RwsOk m 14 rs) (hl : rs.length ≤ 14) (k : ∀ q xs H', H q = none → Sm H H' → H' q = some (.lst xs) → SysAt K H' xs (rowS rs j) → Q (.ref q) H') : sp_f_row_sayings K [v, .int (j : Nat)] H Q E := ⟨v, m, j, rs, r, rfl, hv, hj, hm, ho, hl, k⟩
def sp_f_moves_of (K : PySem.W.Frag) : Sp := fun vs H Q E => ∃ (v : V) (j m : Nat) (w' : Str) (rs : List Rw), vs = [v, .int (j : Nat), .str w'] ∧ PrgAt K H v m rs ∧ (w' = "raise" ∨ w' = "lower") ∧ rs.length ≤ 14 ∧ ∀ p H', H p = none → Sm H H' → H' p = some (.lst (nV (plc rs (mvR w' j) rs.length))) → Q (.ref p) H'
theorem call_movesOf {K : PySem.W.Frag} {H : Hp} {Q : VK} {E : XK} {v : V} {j m : Nat} {w' : Str} {rs : List Rw} (hv : PrgAt K H v m rs) (hw : w' = "raise" ∨ w' = "lower") (hl : rs.length ≤ 14) (k : ∀ p H', H p = none → Sm H H' → H' p = some (.lst (nV (plc rs (mvR w' j) rs.length))) → Q (.ref p) H') : sp_f_moves_of K [v, .int (j : Nat), .str w'] H Q E := ⟨v, j, m, w', rs, rfl, hv, hw, hl, k⟩
def sp_f_box_saying (K : PySem.W.Frag) : Sp := fun vs H Q E => ∃ (v : V) (m j : Nat) (rs : List Rw), vs = [v, .int (j : Nat)] ∧ PrgAt K H v m rs ∧ j < m ∧ m ≤ 5 ∧ rs.length ≤ 14 ∧ ∀ q H', Sm H H' → SyAt K H' q (boxS rs j) → Q q H'
theorem call_boxS {K : PySem.W.Frag} {H : Hp} {Q : VK} {E : XK} {v : V} {m j : Nat} {rs : List Rw} (hv : PrgAt K H v m rs) (hj : j < m) (hm : m ≤ 5) (hl : rs.length ≤ 14) (k : ∀ q H', Sm H H' → SyAt K H' q (boxS rs j) → Q q H') : sp_f_box_saying K [v, .int (j : Nat)] H Q E := ⟨v, m, j, rs, rfl, hv, hj, hm, hl, k⟩
def sp_f_sayings_of (K : PySem.W.Frag) : Sp := fun vs H Q E => ∃ (v : V) (m : Nat) (rs : List Rw), vs = [v] ∧ PrgAt K H v m rs ∧ m ≤ 5 ∧ RwsOk m rs.length rs ∧ rs.length ≤ 14 ∧ ∀ q xs H', H q = none → Sm H H' → H' q = some (.lst xs) → SysAt K H' xs (sysOf m rs) → Q (.ref q) H'
theorem call_sysOf {K : PySem.W.Frag} {H : Hp} {Q : VK} {E : XK} {v : V} {m : Nat} {rs : List Rw} (hv : PrgAt K H v m rs) (hm : m ≤ 5) (ho : RwsOk m rs.length rs) (hl : rs.length ≤ 14) (k : ∀ q xs H', H q = none → Sm H H' → H' q = some (.lst xs) → SysAt K H' xs (sysOf m rs) → Q (.ref q) H') : sp_f_sayings_of K [v] H Q E := ⟨v, m, rs, rfl, hv, hm, ho, hl, k⟩
def sp_f_law_asked (K : PySem.W.Frag) : Sp := fun vs H Q E => ∃ (m : Nat) (p : Addr) (us : List V) (rs : List Rw), vs = [.int (m : Nat), .ref p] ∧ H p = some (.lst us) ∧ RwsAt H us rs ∧ m ≤ 5 ∧ rs.length ≤ 14 ∧ ∀ q H', H q = none → Sm H H' → H' q = some (.lst (nV (asked m rs))) → Q (.ref q) H'
theorem call_lawAsked {K : PySem.W.Frag} {H : Hp} {Q : VK} {E : XK} {m : Nat} {p : Addr} {us : List V} {rs : List Rw} (hp : H p = some (.lst us)) (hR : RwsAt H us rs) (hm : m ≤ 5) (hl : rs.length ≤ 14) (k : ∀ q H', H q = none → Sm H H' → H' q = some (.lst (nV (asked m rs))) → Q (.ref q) H') : sp_f_law_asked K [.int (m : Nat), .ref p] H Q E := ⟨m, p, us, rs, rfl, hp, hR, hm, hl, k⟩
def brJ (r : Rw) (j : Nat) : Bool := match r with
  | .br i _ => decide (i = j)
  | _ => false
theorem ask_eqv (r : Rw) (j : Nat) : PyData.eqv (.tuple (r.ds.take 2)) (.tuple [.str "if", .int (j : Int)]) = brJ r j := by
  have n1 := str_beq (show Str.ofString "raise" ≠ Str.ofString "if" by decide +kernel)
  have n2 := str_beq (show Str.ofString "lower" ≠ Str.ofString "if" by decide +kernel)
  have n3 := str_beq (show Str.ofString "go" ≠ Str.ofString "if" by decide +kernel)
  have n4 := str_beq (show Str.ofString "stop" ≠ Str.ofString "if" by decide +kernel)
  have ib : ∀ a b : Nat, ((a : Int) == (b : Int)) = decide (a = b) := fun a b => by
    by_cases h : a = b
    · subst h; simp
    · rw [decide_eq_false h]
      simpa using fun e : (a : Int) = b => h (Int.ofNat_inj.mp e)
  cases r <;> simp [brJ, Rw.ds, PyData.eqv, PyData.eqvAll, n1, n2, n3, n4, ib]
theorem tk_tpl {H : Hp} : ∀ {ds : List PyData} {vs : List V} (n : Nat), TpL H ds vs → TpL H (ds.take n) (vs.take n)
  | [], vs, n, h => by
    unfold TpL at h
    subst h
    rw [List.take_nil, List.take_nil]
    exact tpl_nil
  | d :: ds, vs, 0, h => by
    rw [List.take_zero, List.take_zero]
    exact tpl_nil
  | d :: ds, vs, n + 1, h => by
    unfold TpL at h
    obtain ⟨v, us, rfl, q, r⟩ := h
    exact tpl_cons q (tk_tpl n r)
theorem w_eqAsk {K : PySem.W.Frag} {H : Hp} {Q : VK} {a b : Addr} {r : Rw} {j : Nat} (h1 : H a = some (.tup (cutV r.vs none (some 2)))) (h2 : H b = some (.tup [.str "if", .int (j : Int)])) (k : ∀ c, c = brJ r j → Q (.bl c) H) : gEq K (.ref a) (.ref b) H Q := by
  rw [cut_hi (by decide)] at h1
  obtain ⟨c1, c2⟩ := rw_cl r
  have sh : SeqAt.shaped (.tuple (r.ds.take 2)) = true := by
    have s1 : PyData.strOk (Str.ofString "raise") = true := by decide +kernel
    have s2 : PyData.strOk (Str.ofString "lower") = true := by decide +kernel
    have s3 : PyData.strOk (Str.ofString "if") = true := by decide +kernel
    have s4 : PyData.strOk (Str.ofString "go") = true := by decide +kernel
    have s5 : PyData.strOk (Str.ofString "stop") = true := by decide +kernel
    show ((PyData.tuple (r.ds.take 2)).canLay0 && decide ((PyData.tuple (r.ds.take 2)).depth ≤ 64)) = true
    cases r <;> simp [Rw.ds, PyData.canLay0, PyData.canLayAll0, PyData.depth, PyData.depthAll, s1, s2, s3, s4, s5]
  have sh2 : SeqAt.shaped (.tuple [.str "if", .int (j : Int)]) = true := by
    have s3 : PyData.strOk (Str.ofString "if") = true := by decide +kernel
    show ((PyData.tuple [.str "if", .int (j : Int)]).canLay0 && decide ((PyData.tuple [.str "if", .int (j : Int)]).depth ≤ 64)) = true
    simp [PyData.canLay0, PyData.canLayAll0, PyData.depth, PyData.depthAll, s3]
  refine .inr ⟨.tuple (r.ds.take 2), .tuple [.str "if", .int (j : Int)], .tup (st_of h1) (TpL.dp _ _ (tk_tpl 2 r.tpl)), .tup (st_of h2) (.cons (.str _) (.cons (.int _) .nil)), sh, sh2, ?_⟩
  exact k _ (ask_eqv r j)
theorem ask_ne {rs : List Rw} {j n : Nat} : (List.range n).filter (fun k => isAsk rs j k) ≠ [] ↔ askB rs j n = true := by
  unfold askB
  rw [List.any_eq_true]
  constructor
  · intro h
    obtain ⟨k, hk⟩ := List.exists_mem_of_ne_nil _ h
    obtain ⟨a, b⟩ := List.mem_filter.mp hk
    exact ⟨k, a, b⟩
  · rintro ⟨k, a, b⟩ h
    have : k ∈ (List.range n).filter (fun k => isAsk rs j k) := List.mem_filter.mpr ⟨a, b⟩
    rw [h] at this
    cases this
theorem flt_succ {p : Nat → Bool} {n : Nat} : (List.range (n + 1)).filter p = (List.range n).filter p ++ (if p n = true then [n] else []) := by
  rw [List.range_succ, List.filter_append]
  by_cases h : p n = true
  · rw [if_pos h, List.filter_cons_of_pos h, List.filter_nil]
  · rw [if_neg h, List.filter_cons_of_neg h, List.filter_nil]
def sp_f_law_answer (K : PySem.W.Frag) : Sp := fun vs H Q E => ∃ (m c : Nat) (p b q : Addr) (us xs : List V) (rs : List Rw) (bs ys : List Nat) (ss : List (Nat × List Nat)) (k0 : Nat) (pre : List (Nat × List Nat)), vs = [.int (m : Nat), .ref p, .ref b, .ref q, .int (c : Nat)] ∧ H p = some (.lst us) ∧ RwsAt H us rs ∧ Prg m rs ∧ H b = some (.lst (nV bs)) ∧ bs.length = m ∧ H q = some (.lst xs) ∧ SdL H xs ss ∧ ss = pre ++ [(k0, ys)] ∧ (∀ s ∈ ss, s.2.length = m) ∧ ss.length ≤ 402 ∧ 1 ≤ c ∧ c ≤ 1000 ∧ (∀ s ∈ ss, ∀ x ∈ s.2, x ≤ 2 ^ 100) ∧ ∀ d H', H d = none → Sm H H' → H' d = some (.dK (mergeK [] (ansD m rs bs ys ss c))) → Q (.ref d) H'
theorem call_lawAnswer {K : PySem.W.Frag} {H : Hp} {Q : VK} {E : XK} {m c : Nat} {p b q : Addr} {us xs : List V} {rs : List Rw} {bs ys : List Nat} {ss : List (Nat × List Nat)} {k0 : Nat} {pre : List (Nat × List Nat)} (hp : H p = some (.lst us)) (hR : RwsAt H us rs) (hg : Prg m rs) (hb : H b = some (.lst (nV bs))) (hbl : bs.length = m) (hq : H q = some (.lst xs)) (hX : SdL H xs ss) (hss : ss = pre ++ [(k0, ys)]) (hsl : ∀ s ∈ ss, s.2.length = m) (hsn : ss.length ≤ 402) (c1 : 1 ≤ c) (c2 : c ≤ 1000) (hbd : ∀ s ∈ ss, ∀ x ∈ s.2, x ≤ 2 ^ 100) (k : ∀ d H', H d = none → Sm H H' → H' d = some (.dK (mergeK [] (ansD m rs bs ys ss c))) → Q (.ref d) H') : sp_f_law_answer K [.int (m : Nat), .ref p, .ref b, .ref q, .int (c : Nat)] H Q E := ⟨m, c, p, b, q, us, xs, rs, bs, ys, ss, k0, pre, rfl, hp, hR, hg, hb, hbl, hq, hX, hss, hsl, hsn, c1, c2, hbd, k⟩
def spR_f_law_worth (K : PySem.W.Frag) : Nat → Sp
  | 0 => fun _ _ _ _ => False
  | m + 1 => fun vs H Q E => ∃ (v : V) (d : Addr) (t : Tm) (kvs : List (Key × V)) (g : Str → Nat), vs = [v, .ref d] ∧ TmAt K H t v ∧ H d = some (.dK kvs) ∧ TmOk kvs g t ∧ t.dep ≤ m ∧ Q (.int ((ev g t : Nat) : Int)) H
abbrev sp_f_law_worth (K : PySem.W.Frag) : Sp := spR_f_law_worth K 40
theorem call_lworth {K : PySem.W.Frag} {n : Nat} {H : Hp} {Q : VK} {E : XK} {v : V} {d : Addr} {t : Tm} {kvs : List (Key × V)} {g : Str → Nat} (hv : TmAt K H t v) (hd : H d = some (.dK kvs)) (ht : TmOk kvs g t) (hm : t.dep ≤ n) (k : Q (.int ((ev g t : Nat) : Int)) H) : spR_f_law_worth K (n + 1) [v, .ref d] H Q E := ⟨v, d, t, kvs, g, rfl, hv, hd, ht, hm, k⟩
def sp_f_law_holds (K : PySem.W.Frag) : Sp := fun vs H Q E => ∃ (s d : Addr) (w : Str) (l r : V) (a b : Tm) (kvs : List (Key × V)) (g : Str → Nat), vs = [.ref s, .ref d] ∧ TpK K H s [.str w, l, r] ∧ (w = "same" ∨ w = "under") ∧ TmAt K H a l ∧ TmAt K H b r ∧ H d = some (.dK kvs) ∧ TmOk kvs g a ∧ TmOk kvs g b ∧ a.dep ≤ 39 ∧ b.dep ≤ 39 ∧ ∀ H', Sm H H' → Q (.bl (if w = "under" then decide (ev g a &&& ev g b = ev g a) else decide (ev g a = ev g b))) H'
theorem call_lholds {K : PySem.W.Frag} {H : Hp} {Q : VK} {E : XK} {s d : Addr} {w : Str} {l r : V} {a b : Tm} {kvs : List (Key × V)} {g : Str → Nat} (hs : TpK K H s [.str w, l, r]) (hw : w = "same" ∨ w = "under") (ha : TmAt K H a l) (hb : TmAt K H b r) (hd : H d = some (.dK kvs)) (oa : TmOk kvs g a) (ob : TmOk kvs g b) (da : a.dep ≤ 39) (db : b.dep ≤ 39)
    (k : ∀ H', Sm H H' → Q (.bl (if w = "under" then decide (ev g a &&& ev g b = ev g a) else decide (ev g a = ev g b))) H') : sp_f_law_holds K [.ref s, .ref d] H Q E := ⟨s, d, w, l, r, a, b, kvs, g, rfl, hs, hw, ha, hb, hd, oa, ob, da, db, k⟩
def sp_f_law (K : PySem.W.Frag) : Sp := fun vs H Q E => ∃ (a : Addr) (ns : List Int), vs = [.ref a] ∧ SqF K H a (ns.map V.int) ∧ ns.length ≤ 63 ∧ ∀ H', Q (.bl true) H'
section
variable {P : Program} {w : World} {K : PySem.W.Frag} {mg : Str → Option Value} {base : Heap}
/-! ### _law_box -/
theorem ok_f_law_box {f : Addr} {fd : FuncData} (F : Fun K "_law_box" "_law_box" s_f_law_box f fd)
    (m_len : mg "len" = none)
    (m_int : mg "int" = none) :
    FnG P w K mg base CX0 1 f fd ["script", "k"] (sp_f_law_box K) := by
  refine okG F sc_f_law_box (fun vs H Q E h => ?_) (fun cdv A outer s H vs Q E hr h => ⟨_, (pss_cons (ps_set (i := 2) sc_f_law_box.nd rfl (by first | exact Or.inl rfl | exact Or.inr rfl) (pe_op (op_gAdd (K := K) rfl) (pe_op op_gMul pe_int (pv 1)) pe_int))
    (pss_cons (ps_if (pt_cmpR op_gLt (pv 1) (pe_callB (call_gLen (K := K) rfl) (by rfl) m_len PySem.boot_len (pa_cons (pv 0) pa_nil)) (nomark _)) (pss_one (ps_set (i := 2) sc_f_law_box.nd rfl (by first | exact Or.inl rfl | exact Or.inr rfl) (pe_ix (ix_g (K := K) rfl) (pv 0) (pv 1) (fun _ _ => rfl)))) (pss_one (ps_if (pt_cmpR op_gGt (pe_callB (call_gLen (K := K) rfl) (by rfl) m_len PySem.boot_len (pa_cons (pv 0) pa_nil)) pe_int (nomark _)) (pss_one (ps_set (i := 2) sc_f_law_box.nd rfl (by first | exact Or.inl rfl | exact Or.inr rfl) (pe_op (op_gAdd (K := K) rfl) (pv 2) (pe_op op_gMul (pe_op op_gMod (pe_ix (ix_g (K := K) rfl) (pv 0) (pe_op op_gMod (pv 1) (pe_callB (call_gLen (K := K) rfl) (by rfl) m_len PySem.boot_len (pa_cons (pv 0) pa_nil))) (fun _ _ => rfl)) pe_int) pe_int)))) pss_nil)))
    (pss_cons (ps_set (i := 3) sc_f_law_box.nd rfl (by first | exact Or.inl rfl | exact Or.inr rfl) (pe_op (op_gAdd (K := K) rfl) (pe_op op_gMod (pe_op (op_gAdd (K := K) rfl) (pe_op op_gMul (pe_op op_gMod (pv 2) pe_int) pe_int) (pe_op op_gMul pe_int (pv 1))) pe_int) pe_int))
    (pss_one (ps_ret (pe_lst (pa_cons (pe_ix (ix_g (K := K) rfl) (pe_lst (pa_cons pe_int (pa_cons (pv 2) pa_nil))) (pe_callTy call_gInt (by rfl) m_int PyProof.Rows.boot_int (pa_cons (pe_cmpR op_gGe (pv 2) (pe_op op_gPow pe_int pe_int) (nomark _)) pa_nil)) (fun _ _ => rfl)) (pa_cons (pv 3) pa_nil)))))))), ?_⟩)
  · obtain ⟨_, _, _, rfl, _⟩ := h
    rfl
  · obtain ⟨a, ns, i, rfl, hS, h0, h1, k⟩ := h
    try dsimp only [cxOf, Cx.nox, Cx.wish]
    change (_ : L2.TS) _ [some (.ref a), some (.int i), none, none] _
    refine w_start ?_
    have big : (0 : Int) ≤ 10 ^ Int.toNat 18 := by decide
    repeat' (tm_at "rs")
    · refine w_ixInts hS h0 (by assumption) (fun n _ => ?_)
      repeat' (tm_at "rs")
      all_goals refine k _ _ ?_ ?_ ⟨_, _, by assumption, by omega, by omega, by omega⟩
      all_goals tm_at "rz"
    · rename_i z z1 z2 z3 z4
      refine w_ixInts hS z2 z3 (fun n _ => ?_)
      repeat' (tm_at "rs")
      all_goals refine k _ _ ?_ ?_ ⟨_, _, by assumption, by omega, by omega, by omega⟩
      all_goals tm_at "rz"
    all_goals refine k _ _ ?_ ?_ ⟨_, _, by assumption, by omega, by omega, by omega⟩
    all_goals tm_at "rz"
/-! ### _law_take -/
theorem ok_f_law_take {f : Addr} {fd : FuncData} (F : Fun K "_law_take" "_law_take" s_f_law_take f fd) :
    FnG P w K mg base CX0 1 f fd ["box", "wide"] (sp_f_law_take K) := by
  refine okG F sc_f_law_take (fun vs H Q E h => ?_) (fun cdv A outer s H vs Q E hr h => ⟨_, (pss_cons (ps_if (pt_cmpR op_gGt (pe_ix (ix_g (K := K) rfl) (pv 0) pe_int (fun _ _ => rfl)) pe_int (nomark _)) (pss_cons (ps_set (i := 2) sc_f_law_take.nd rfl (by first | exact Or.inl rfl | exact Or.inr rfl) (pe_op op_gMod (pe_ix (ix_g (K := K) rfl) (pv 0) pe_int (fun _ _ => rfl)) (pv 1)))
    (pss_cons (ps_asg (pe_op op_gDiv (pe_ix (ix_g (K := K) rfl) (pv 0) pe_int (fun _ _ => rfl)) (pv 1)) (pg_sub (pv 0) pe_int set_list))
    (pss_one (ps_ret (pv 2))))) pss_nil)
    (pss_cons (ps_set (i := 3) sc_f_law_take.nd rfl (by first | exact Or.inl rfl | exact Or.inr rfl) (pe_op op_gMod (pe_op op_gMul (pe_ix (ix_g (K := K) rfl) (pv 0) pe_int (fun _ _ => rfl)) pe_int) pe_int))
    (pss_cons (ps_asg (pe_op (op_gAdd (K := K) rfl) (pe_op op_gMod (pe_op (op_gAdd (K := K) rfl) (pe_op op_gMul (pv 3) pe_int) pe_int) pe_int) pe_int) (pg_sub (pv 0) pe_int set_list))
    (pss_one (ps_ret (pe_op op_gMod (pe_op op_gDiv (pe_op (op_gAdd (K := K) rfl) (pe_op op_gMul (pv 3) pe_int) (pe_ix (ix_g (K := K) rfl) (pv 0) pe_int (fun _ _ => rfl))) pe_int) (pv 1))))))), ?_⟩)
  · obtain ⟨_, _, rfl, _⟩ := h
    rfl
  · obtain ⟨b, w, rfl, hB, hw, k⟩ := h
    try dsimp only [cxOf, Cx.nox, Cx.wish]
    change (_ : L2.TS) _ [some (.ref b), some (.int w), none, none] _
    refine w_start ?_
    obtain ⟨x, s, hb, hx, hs, hs2⟩ := hB
    obtain ⟨hw0, hw1⟩ := hw
    repeat' (tm_at "rs")
    · refine k _ _ (by omega) (by omega) (by assumption) ⟨_, _, by assumption, ?_, hs, hs2⟩
      exact Int.ediv_nonneg hx (by omega)
    · refine k _ _ (by omega) (by omega) (by assumption) ⟨_, _, by assumption, hx, ?_, ?_⟩
      · omega
      · omega
/-! ### _law_piece -/
theorem ok_f_law_piece {f : Addr} {fd : FuncData} (F : Fun K "_law_piece" "_law_piece" s_f_law_piece f fd)
    (D_f_law_take : Def P w K mg base CX0 "_law_take" 1 ["box", "wide"] (sp_f_law_take K))
    (m_range : mg "range" = none)
    (m_len : mg "len" = none)
    (m_int : mg "int" = none) :
    FnG P w K mg base CX0 2 f fd ["box", "boxes", "at"] (sp_f_law_piece K) := by
  refine okG F sc_f_law_piece (fun vs H Q E h => ?_) (fun cdv A outer s H vs Q E hr h => ⟨_, (pss_cons (ps_set (i := 3) sc_f_law_piece.nd rfl (by first | exact Or.inl rfl | exact Or.inr rfl) (pe_f D_f_law_take (hr.mono (by omega)) (by rfl) pass0 (pa_cons (pv 0) (pa_cons pe_int pa_nil))))
    (pss_cons (ps_set (i := 4) sc_f_law_piece.nd rfl (by first | exact Or.inl rfl | exact Or.inr rfl) (pe_f D_f_law_take (hr.mono (by omega)) (by rfl) pass0 (pa_cons (pv 0) (pa_cons (pv 1) pa_nil))))
    (pss_cons (ps_if (pt_cmpR (op_gEq (K := K) rfl hr.units) (pv 3) pe_int (nomark _)) (pss_one (ps_ret (pe_op op_gMul (pe_lst (pa_cons (pe_tup (pa_cons pe_str (pa_cons (pv 4) pa_nil))) pa_nil)) (pe_op (op_gAdd (K := K) rfl) pe_int (pe_f D_f_law_take (hr.mono (by omega)) (by rfl) pass0 (pa_cons (pv 0) (pa_cons pe_int pa_nil))))))) pss_nil)
    (pss_cons (ps_if (pt_cmpR (op_gEq (K := K) rfl hr.units) (pv 3) pe_int (nomark _)) (pss_one (ps_ret (pe_lst (pa_cons (pe_ix (ix_g (K := K) rfl) (pe_lst (pa_cons (pe_tup (pa_cons pe_str (pa_cons (pe_op (op_gAdd (K := K) rfl) (pv 2) pe_int) pa_nil))) (pa_cons (pe_tup (pa_cons pe_str (pa_cons (pv 4) (pa_cons (pe_op (op_gAdd (K := K) rfl) (pv 2) pe_int) pa_nil)))) pa_nil))) (pe_f D_f_law_take (hr.mono (by omega)) (by rfl) pass0 (pa_cons (pv 0) (pa_cons pe_int pa_nil))) (fun _ _ => rfl)) pa_nil)))) pss_nil)
    (pss_cons (ps_asg (pe_lc (own := _) rfl sc_f_law_piece.nd (pi_range1 (by rfl) m_range (pa_cons (pv 1) pa_nil)) (blkOk_by (own := [("k", 6)]) (N := ["box", "boxes", "at", "form", "j", "some", "k", "body"]) (sc := defScope s_f_law_piece) (by decide +kernel)) (fun _ _ _ _ _ => (pg_name (i := 6) sc_f_law_piece.nd rfl (by first | exact Or.inl rfl | exact Or.inr rfl))) (fun _ _ _ _ _ => pts_one (pt_cmpR (op_gNe (K := K) rfl hr.units) (pv 6) (pv 4) (nomark _))) (fun _ _ _ _ _ => (pv 6))) (pg_name (i := 5) sc_f_law_piece.nd rfl (by first | exact Or.inl rfl | exact Or.inr rfl)))
    (pss_cons (ps_setLc (i := 7) rfl sc_f_law_piece.nd rfl rfl (sw_true rfl rfl rfl (by decide +kernel)) (pi_range1 (by rfl) m_range (pa_cons (pe_op op_gMul (pe_f D_f_law_take (hr.mono (by omega)) (by rfl) pass0 (pa_cons (pv 0) (pa_cons pe_int pa_nil))) (pe_callTy call_gInt (by rfl) m_int PyProof.Rows.boot_int (pa_cons (pe_cmpR op_gGt (pe_callB (call_gLen (K := K) rfl) (by rfl) m_len PySem.boot_len (pa_cons (pv 5) pa_nil)) pe_int (nomark _)) pa_nil))) pa_nil)) (blkOk_by (own := [("k", 6)]) (N := ["box", "boxes", "at", "form", "j", "some", "k", "body"]) (sc := defScope s_f_law_piece) (by decide +kernel)) (fun _ _ _ _ _ => (pg_name (i := 6) sc_f_law_piece.nd rfl (by first | exact Or.inl rfl | exact Or.inr rfl))) (fun _ _ _ _ _ => pts_nil) (fun _ _ _ _ _ => (pe_tup (pa_cons pe_str (pa_cons (pe_ix (ix_g (K := K) rfl) (pv 5) (pe_f D_f_law_take (hr.mono (by omega)) (by rfl) pass0 (pa_cons (pv 0) (pa_cons (pe_callB (call_gLen (K := K) rfl) (by rfl) m_len PySem.boot_len (pa_cons (pv 5) pa_nil)) pa_nil))) (fun _ _ => rfl)) pa_nil)))))
    (pss_one (ps_ret (pe_op (op_gAdd (K := K) rfl) (pe_op (op_gAdd (K := K) rfl) (pe_lst (pa_cons (pe_tup (pa_cons pe_str (pa_cons (pv 4) (pa_cons (pe_op (op_gAdd (K := K) rfl) (pe_op (op_gAdd (K := K) rfl) (pv 2) pe_int) (pe_callB (call_gLen (K := K) rfl) (by rfl) m_len PySem.boot_len (pa_cons (pv 7) pa_nil))) pa_nil)))) (pa_cons (pe_tup (pa_cons pe_str (pa_cons (pv 4) pa_nil))) pa_nil))) (pv 7)) (pe_lst (pa_cons (pe_tup (pa_cons pe_str (pa_cons (pv 2) pa_nil))) pa_nil))))))))))), ?_⟩)
  · obtain ⟨_, _, _, rfl, _⟩ := h
    rfl
  · obtain ⟨b, m, t, rfl, hB, m1, m5, t1, k⟩ := h
    try dsimp only [cxOf, Cx.nox, Cx.wish]
    change (_ : L2.TS) _ [some (.ref b), some (.int (m : Int)), some (.int (t : Int)), none, none, none, none, none] _
    refine w_start ?_
    repeat' (tm_at "rs")
    · rename_i f Ha f0 f1 ka ba j Hb j0 j1 kb bb c1 s1 Hc n1 t1' g1 l1 Hd n2 t2 g2 z He z0 z1 kc bc
      obtain ⟨j, rfl⟩ := Int.eq_ofNat_of_zero_le j0
      refine w_rep1V (by tm_at "rlk") (by omega) (by omega) (fun p H' np sp gp => ?_)
      repeat' (tm_at "rs")
      have a1 : Tk Hc H' := by tm_at "rtk"
      have e1 : (List.replicate (1 + z).toNat (Rw.up j)).length = (1 + z).toNat := List.length_replicate
      exact k p _ (List.replicate (1 + z).toNat (.up j)) H' (by tm_at "rfr") gp (paired_rep (rw_one (a1 _ _ g1)) _) (by omega) (by omega) (fun r hr => by rw [(List.mem_replicate.mp hr).2]; show j < m; omega) (by tm_at "rkp") (by tm_at "rbx")
    · rename_i f Ha f0 f1 ka ba j Hb j0 j1 kb bb c1 c2 s1 Hc n1 t1' g1 s2 Hd n2 t2 g2 l1 He n3 t3 g3 z Hf z0 z1 kc bc
      obtain ⟨j, rfl⟩ := Int.eq_ofNat_of_zero_le j0
      have a2 : Tk Hd Hf := by tm_at "rtk"
      have a1 : Tk Hc Hf := by tm_at "rtk"
      refine w_ixP (fun x => ∃ r, RwAt Hf x r ∧ r.ok m (t + 1 + 1)) (.inl (by tm_at "rsq")) z0 (by show z < 2; omega) (all2 ⟨.go (t + 1), rw_one (a1 _ _ g1), (show t + 1 < t + 1 + 1 by omega)⟩ ⟨.br j (t + 1), rw_one (a2 _ _ g2), (show j < m ∧ t + 1 < t + 1 + 1 by omega)⟩) (fun x hx => ?_)
      obtain ⟨r, hxr, ro⟩ := hx
      repeat' (tm_at "rs")
      rename_i p H' np sp gp
      exact k p _ [r] H' (by tm_at "rfr") gp (.cons (hxr.tk (Tk.sm sp)) .nil) (Nat.le_refl _) (by show 1 ≤ 6; decide) (RwsOk.one ro) (by tm_at "rkp") (by tm_at "rbx")
    · rename_i f Ha f0 f1 ka ba j Hb j0 j1 kb bb c1 c2
      obtain ⟨j, rfl⟩ := Int.eq_ofNat_of_zero_le j0
      have hm : ((m : Int)).toNat = m := Int.toNat_natCast m
      rw [hm]
      refine lcR (fun D i H' => ∃ xs : List Nat, H' D = some (.lst (nV xs)) ∧ xs.length ≤ i ∧ (∀ x ∈ xs, x < m) ∧ Sm Hb H') ?_ ?_ ?_
      · intro D H' nD sm hD
        exact ⟨[], hD, Nat.le_refl _, (fun x hx => by cases hx), sm⟩
      · rintro D i H' nD hi ⟨xs, hD, hl, hx, hs⟩
        have hxl := nV_len xs
        repeat' (tm_at "rs")
        · rename_i c3 H'' k3 g3
          refine ⟨xs ++ [i], by rw [nV_snoc]; rw [Int.zero_add] at g3; exact g3, by rw [List.length_append]; show xs.length + 1 ≤ _; omega, fun x hx2 => ?_, by tm_at "rsm"⟩
          rcases List.mem_append.mp hx2 with h | h
          · exact hx x h
          · rw [List.mem_singleton.mp h]
            exact hi
        · exact ⟨xs, hD, by omega, hx, hs⟩
      · rintro D Hc nD ⟨xs, hD, hl, hx, hs⟩
        have hxl := nV_len xs
        repeat' (tm_at "rs")
    
        all_goals
          rename_i z He z0 z1 ke be hh
          refine lcR (fun B i H' => ∃ us rs, H' B = some (.lst us) ∧ RwsAt H' us rs ∧ rs.length = i ∧ (∀ r ∈ rs, ∃ j, r = .up j ∧ j < m) ∧ Kp b He H' ∧ BoxAt H' b) ?_ ?_ ?_
          · intro B H' nB sm hB2
            exact ⟨[], [], hB2, .nil, rfl, (fun r hr => by cases hr), by tm_at "rkp", by tm_at "rbx"⟩
          · rintro B i H' nB hi ⟨us, rs, hB2, hr, hrl, ho, hk, hb⟩
            have hrl2 := paired_len hr
            have hDb : D ≠ b := ne_newB nD (by assumption)
            have hi2 : i < 3 := by omega
            have hx0 : 0 < xs.length := by
              rcases Nat.eq_zero_or_pos xs.length with h | h
              · exfalso
                rw [hxl, h] at hh
                omega
              · exact h
            repeat' (tm_at "rs")
            rename_i u Hf u0 u1 kf bf
            have hD4 : Hf D = some (.lst (nV xs)) := by tm_at "rlk"
            refine w_ixN (.inl (sq_of hD4)) u0 (by omega) (fun x hxx => ?_)
            repeat' (tm_at "rs")
            rename_i q Hg nq sq gq Hh kh gh
            have a2 : Tk Hg Hh := by tm_at "rtk"
            have a1 : Tk H' Hh := by clear a2; tm_at "rtk"
            refine ⟨_, rs ++ [.up x], gh, paired_app (hr.tk a1) (.cons (rw_one (r := .up x) (a2 _ _ gq)) .nil), by rw [List.length_append, hrl]; rfl, fun r hr2 => ?_, by tm_at "rkp", by tm_at "rbx"⟩
            rcases List.mem_append.mp hr2 with h | h
            · exact ho r h
            · exact ⟨x, List.mem_singleton.mp h, hx x hxx⟩
          · rintro B Hd nB ⟨us, rs, hB2, hr, hrl, ho, hk, hb⟩
            have hrl2 := paired_len hr
            have hrs3 : rs.length ≤ 3 := by omega
            repeat' (tm_at "rs")
            rename_i s1 H1 n1 t1' g1 s2 H2 n2 t2 g2 l1 H3 n3 t3 g3 l2 H4 n4 t4 g4 s3 H5 n5 t5 g5 l3 H6 n6 t6 g6 l4 H7 n7 t7 g7
            have a3 : Tk H5 H7 := by tm_at "rtk"
            have a2 : Tk H2 H7 := by clear a3; tm_at "rtk"
            have a1 : Tk H1 H7 := by clear a2 a3; tm_at "rtk"
            have a0 : Tk Hd H7 := by clear a1 a2 a3; tm_at "rtk"
            have g1' : H1 s1 = some (.tup (Rw.br j (t + 3 + rs.length)).vs) := by rw [g1, hrl2]; rfl
            have el : ([Rw.br j (t + 3 + rs.length), Rw.dn j] ++ rs ++ [Rw.go t]).length = rs.length + 3 := by
              rw [List.length_append, List.length_append]
              show 2 + rs.length + 1 = _
              omega
            exact k _ _ ([Rw.br j (t + 3 + rs.length), Rw.dn j] ++ rs ++ [Rw.go t]) _ (by tm_at "rfr") g7 (paired_app (paired_app (.cons (rw_one (a1 _ _ g1')) (.cons (rw_one (r := .dn j) (a2 _ _ g2)) .nil)) (hr.tk a0)) (.cons (rw_one (r := .go t) (a3 _ _ g5)) .nil)) (by omega) (by omega) (by
              rw [el]
              refine RwsOk.app (RwsOk.app (RwsOk.cons (r := Rw.br j (t + 3 + rs.length)) (show j < m ∧ t + 3 + rs.length < t + (rs.length + 3) + 1 by omega) (RwsOk.one (r := Rw.dn j) (show j < m by omega))) (fun r hr2 => ?_)) (RwsOk.one (r := Rw.go t) (show t < t + (rs.length + 3) + 1 by omega))
              obtain ⟨x, rfl, hx⟩ := ho r hr2
              exact hx) (by tm_at "rkp") (by tm_at "rbx")
/-! ### _law_ending_rows -/
theorem ok_f_law_ending_rows {f : Addr} {fd : FuncData} (F : Fun K "_law_ending_rows" "_law_ending_rows" s_f_law_ending_rows f fd)
    (D_f_law_piece : Def P w K mg base CX0 "_law_piece" 2 ["box", "boxes", "at"] (sp_f_law_piece K))
    (D_f_law_take : Def P w K mg base CX0 "_law_take" 1 ["box", "wide"] (sp_f_law_take K))
    (m_range : mg "range" = none)
    (m_len : mg "len" = none) :
    FnG P w K mg base CX0 3 f fd ["box", "boxes"] (sp_f_law_ending_rows K) := by
  refine okG F sc_f_law_ending_rows (fun vs H Q E h => ?_) (fun cdv A outer s H vs Q E hr h => ⟨_, (pss_cons (ps_set (i := 2) sc_f_law_ending_rows.nd rfl (by first | exact Or.inl rfl | exact Or.inr rfl) (pe_lst pa_nil))
    (pss_cons (ps_for PassesOwn.never rfl (pi_range1 (by rfl) m_range (pa_cons (pe_op (op_gAdd (K := K) rfl) pe_int (pe_f D_f_law_take (hr.mono (by omega)) (by rfl) pass0 (pa_cons (pv 0) (pa_cons pe_int pa_nil)))) pa_nil)) (pg_name (i := 3) sc_f_law_ending_rows.nd rfl (by first | exact Or.inl rfl | exact Or.inr rfl)) (pss_cons (ps_set (i := 4) sc_f_law_ending_rows.nd rfl (by first | exact Or.inl rfl | exact Or.inr rfl) (pe_f D_f_law_piece (hr.mono (by omega)) (by rfl) pass0 (pa_cons (pv 0) (pa_cons (pv 1) (pa_cons (pe_callB (call_gLen (K := K) rfl) (by rfl) m_len PySem.boot_len (pa_cons (pv 2) pa_nil)) pa_nil)))))
    (pss_one (ps_if (pt_cmpR op_gLt (pe_op (op_gAdd (K := K) rfl) (pe_callB (call_gLen (K := K) rfl) (by rfl) m_len PySem.boot_len (pa_cons (pv 2) pa_nil)) (pe_callB (call_gLen (K := K) rfl) (by rfl) m_len PySem.boot_len (pa_cons (pv 4) pa_nil))) pe_int (nomark _)) (pss_one (ps_set (i := 2) sc_f_law_ending_rows.nd rfl (by first | exact Or.inl rfl | exact Or.inr rfl) (pe_op (op_gAdd (K := K) rfl) (pv 2) (pv 4)))) pss_nil))))
    (pss_cons (ps_if (PW.pt (pw_and (pt_cmpR (op_gEq (K := K) rfl hr.units) (pe_f D_f_law_take (hr.mono (by omega)) (by rfl) pass0 (pa_cons (pv 0) (pa_cons pe_int pa_nil))) pe_int (nomark _)) (pw_and1 (pt_cmpR op_gLt (pe_callB (call_gLen (K := K) rfl) (by rfl) m_len PySem.boot_len (pa_cons (pv 2) pa_nil)) pe_int (nomark _))))) (pss_one (ps_set (i := 2) sc_f_law_ending_rows.nd rfl (by first | exact Or.inl rfl | exact Or.inr rfl) (pe_op (op_gAdd (K := K) rfl) (pv 2) (pe_lst (pa_cons (pe_tup (pa_cons pe_str (pa_cons (pe_f D_f_law_take (hr.mono (by omega)) (by rfl) pass0 (pa_cons (pv 0) (pa_cons (pv 1) pa_nil))) (pa_cons (pe_op (op_gAdd (K := K) rfl) (pe_callB (call_gLen (K := K) rfl) (by rfl) m_len PySem.boot_len (pa_cons (pv 2) pa_nil)) pe_int) pa_nil)))) (pa_cons (pe_tup (pa_cons pe_str pa_nil)) pa_nil)))))) pss_nil)
    (pss_one (ps_ret (pe_op (op_gAdd (K := K) rfl) (pv 2) (pe_lst (pa_cons (pe_tup (pa_cons pe_str pa_nil)) pa_nil)))))))), ?_⟩)
  · obtain ⟨_, _, rfl, _⟩ := h
    rfl
  · obtain ⟨b, m, rfl, hB, m1, m5, k⟩ := h
    try dsimp only [cxOf, Cx.nox, Cx.wish]
    change (_ : L2.TS) _ [some (.ref b), some (.int (m : Int)), none, none, none] _
    refine w_start ?_
    repeat' (tm_at "rs")
    rename_i l0 H1 nl sl gl w H2 w0 w1 k2 b2
    refine loopR (fun i σ' H' => ∃ (x3 x4 : Option V) (p : Addr) (vs : List V) (rs : List Rw), σ' = [some (.ref b), some (.int (m : Int)), some (.ref p), x3, x4] ∧ H p = none ∧ H' p = some (.lst vs) ∧ RwsAt H' vs rs ∧ rs.length ≤ 12 ∧ RwsOk m (rs.length + 1) rs ∧ Kp b H H' ∧ BoxAt H' b) ?_ ?_ ?_
    · exact ⟨_, _, l0, [], [], rfl, nl, by tm_at "rlk", .nil, by decide, RwsOk.nil, by tm_at "rkp", by tm_at "rbx"⟩
    · rintro i σ' H' hi ⟨x3, x4, p, vs, rs, rfl, np, hp, hr, hl, ho, hk, hb⟩
      have hvl := paired_len hr
      repeat' (tm_at "rs")
      rw [hvl]
      refine call_piece hb m1 m5 (by omega) (fun q us qs H3 nq gq hq q1 q6 oq k3 b3 => ?_)
      have hul := paired_len hq
      have hp3 : H3 p = some (.lst vs) := k3 _ _ (ne_newB np hB) hp
      repeat' (tm_at "rs")
      · rename_i c r H4 nr sr gr
        have t1 : Tk H' H4 := by tm_at "rtk"
        refine ⟨_, _, r, _, rs ++ qs, rfl, by tm_at "rfr", gr, paired_app (hr.tk t1) (hq.tk (Tk.sm sr)), by rw [List.length_append]; omega, ?_, by tm_at "rkp", by tm_at "rbx"⟩
        rw [List.length_append]
        exact (ho.up (by omega)).app (oq.up (by omega))
      · have t1 : Tk H' H3 := by tm_at "rtk"
        exact ⟨_, _, p, vs, rs, rfl, np, hp3, hr.tk t1, hl, ho, by tm_at "rkp", by tm_at "rbx"⟩
    · rintro σ' H' ⟨x3, x4, p, vs, rs, rfl, np, hp, hr, hl, ho, hk, hb⟩
      have hvl := paired_len hr
      repeat' (tm_at "rs")
      · rename_i z Ha z0 z1 ka ba c1 c2 j Hb j0 j1 kb bb s1 Hc n1 t1 g1 s2 Hd n2 t2 g2 l1 He n3 t3 g3 l2 Hf n4 t4 g4 s3 Hg n5 t5 g5 l3 Hi n6 t6 g6 l4 Hj n7 t7 g7
        obtain ⟨j, rfl⟩ := Int.eq_ofNat_of_zero_le j0
        have a3 : Tk Hg Hj := by tm_at "rtk"
        have a2 : Tk Hd Hg := by tm_at "rtk"
        have a1 : Tk Hc Hd := by tm_at "rtk"
        have a0 : Tk H' Hc := by tm_at "rtk"
        have b2 := Tk.trans a2 a3
        have b1 := Tk.trans a1 b2
        have b0 := Tk.trans a0 b1
        have g1' : Hc s1 = some (.tup (Rw.br j (rs.length + 2)).vs) := by rw [g1, hvl]; rfl
        exact k _ _ (rs ++ [Rw.br j (rs.length + 2), Rw.st] ++ [Rw.st]) _ (by tm_at "rfr") g7 (paired_app (paired_app (hr.tk b0) (.cons (rw_one (b1 _ _ g1')) (.cons (rw_one (r := .st) (b2 _ _ g2)) .nil))) (.cons (rw_one (r := .st) (a3 _ _ g5)) .nil)) ⟨m1, m5, by
          have el : (rs ++ [Rw.br j (rs.length + 2), Rw.st] ++ [Rw.st]).length = rs.length + 3 := by rw [List.length_append, List.length_append]; rfl
          rw [el]
          exact ((ho.up (by omega)).app (RwsOk.cons (r := Rw.br j (rs.length + 2)) (show j < m ∧ rs.length + 2 < rs.length + 3 by omega) (RwsOk.one (r := Rw.st) trivial))).app (RwsOk.one (r := Rw.st) trivial), by
          rw [List.length_append, List.length_append]
          show rs.length + 2 + 1 ≤ 14
          omega, _, .st, rfl, trivial⟩ (by tm_at "rkp") (by tm_at "rbx")
      all_goals
        rename_i s3 Hg n5 t5 g5 l3 Hi n6 t6 g6 l4 Hj n7 t7 g7
        have a3 : Tk Hg Hj := by tm_at "rtk"
        have a0 : Tk H' Hg := by tm_at "rtk"
        exact k _ _ (rs ++ [Rw.st]) _ (by tm_at "rfr") g7 (paired_app (hr.tk (Tk.trans a0 a3)) (.cons (rw_one (r := .st) (a3 _ _ g5)) .nil)) ⟨m1, m5, by
          rw [List.length_append]
          exact ho.app (RwsOk.one (r := Rw.st) trivial), by
          rw [List.length_append]
          show rs.length + 1 ≤ 14
          omega, _, .st, rfl, trivial⟩ (by tm_at "rkp") (by tm_at "rbx")
/-! ### _law_row -/
theorem ok_f_law_row {f : Addr} {fd : FuncData} (F : Fun K "_law_row" "_law_row" s_f_law_row f fd)
    (D_f_law_take : Def P w K mg base CX0 "_law_take" 1 ["box", "wide"] (sp_f_law_take K)) :
    FnG P w K mg base CX0 2 f fd ["box", "boxes", "many"] (sp_f_law_row K) := by
  refine okG F sc_f_law_row (fun vs H Q E h => ?_) (fun cdv A outer s H vs Q E hr h => ⟨_, (pss_cons (ps_set (i := 3) sc_f_law_row.nd rfl (by first | exact Or.inl rfl | exact Or.inr rfl) (pe_ix (ix_g (K := K) rfl) (pe_lst (pa_cons pe_str (pa_cons pe_str (pa_cons pe_str (pa_cons pe_str (pa_cons pe_str (pa_cons pe_str (pa_cons pe_str pa_nil)))))))) (pe_f D_f_law_take (hr.mono (by omega)) (by rfl) pass0 (pa_cons (pv 0) (pa_cons pe_int pa_nil))) (fun _ _ => rfl)))
    (pss_cons (ps_if (pt_cmpR (op_gEq (K := K) rfl hr.units) (pv 3) pe_str (nomark _)) (pss_one (ps_ret (pe_tup (pa_cons (pv 3) pa_nil)))) pss_nil)
    (pss_cons (ps_if (pt_cmpR (op_gEq (K := K) rfl hr.units) (pv 3) pe_str (nomark _)) (pss_one (ps_ret (pe_tup (pa_cons (pv 3) (pa_cons (pe_f D_f_law_take (hr.mono (by omega)) (by rfl) pass0 (pa_cons (pv 0) (pa_cons (pv 2) pa_nil))) pa_nil))))) pss_nil)
    (pss_cons (ps_if (pt_cmpR (op_gEq (K := K) rfl hr.units) (pv 3) pe_str (nomark _)) (pss_one (ps_ret (pe_tup (pa_cons (pv 3) (pa_cons (pe_f D_f_law_take (hr.mono (by omega)) (by rfl) pass0 (pa_cons (pv 0) (pa_cons (pv 1) pa_nil))) (pa_cons (pe_f D_f_law_take (hr.mono (by omega)) (by rfl) pass0 (pa_cons (pv 0) (pa_cons (pv 2) pa_nil))) pa_nil)))))) pss_nil)
    (pss_one (ps_ret (pe_tup (pa_cons (pv 3) (pa_cons (pe_f D_f_law_take (hr.mono (by omega)) (by rfl) pass0 (pa_cons (pv 0) (pa_cons (pv 1) pa_nil))) pa_nil))))))))), ?_⟩)
  · obtain ⟨_, _, _, rfl, _⟩ := h
    rfl
  · obtain ⟨b, m, n, rfl, hB, m1, m5, n1, n14, k⟩ := h
    try dsimp only [cxOf, Cx.nox, Cx.wish]
    change (_ : L2.TS) _ [some (.ref b), some (.int (m : Int)), some (.int (n : Int)), none] _
    refine w_start ?_
    repeat' (tm_at "rs")
    rename_i lw H1 nl sl gl w H2 w0 w1 k2 b2
    have glw : H1 lw = some (.lst (([Str.ofString "raise", Str.ofString "raise", Str.ofString "lower", Str.ofString "if", Str.ofString "if", Str.ofString "go", Str.ofString "stop"] : List Str).map V.str)) := gl
    refine w_ixStrs (ys := [Str.ofString "raise", Str.ofString "raise", Str.ofString "lower", Str.ofString "if", Str.ofString "if", Str.ofString "go", Str.ofString "stop"]) (by tm_at "rsq") w0 (by show w < 7; omega) (fun s hs => ?_)
    have hs : s = Str.ofString "raise" ∨ s = Str.ofString "lower" ∨ s = Str.ofString "if" ∨ s = Str.ofString "go" ∨ s = Str.ofString "stop" := by
      simp only [List.mem_cons, List.not_mem_nil, or_false] at hs
      rcases hs with h | h | h | h | h | h | h <;> simp [h]
    repeat' (tm_at "rs")
    · rename_i e p H3 np sp gp
      subst e
      exact k p .st H3 (by tm_at "rfr") gp trivial (by tm_at "rkp") (by tm_at "rbx")
    · rename_i e0 e g H3 g0 g1 k3 b3 p H4 np sp gp
      subst e
      obtain ⟨g, rfl⟩ := Int.eq_ofNat_of_zero_le g0
      exact k p (.go g) H4 (by tm_at "rfr") gp (show g < n by omega) (by tm_at "rkp") (by tm_at "rbx")
    · rename_i e0 e1 e j H3 j0 j1 k3 b3 g H5 g0 g1 k5 b5 p H4 np sp gp
      subst e
      obtain ⟨g, rfl⟩ := Int.eq_ofNat_of_zero_le g0
      obtain ⟨j, rfl⟩ := Int.eq_ofNat_of_zero_le j0
      exact k p (.br j g) H4 (by tm_at "rfr") gp (show j < m ∧ g < n by omega) (by tm_at "rkp") (by tm_at "rbx")
    · rename_i e0 e1 e j H3 j0 j1 k3 b3 p H4 np sp gp
      obtain ⟨j, rfl⟩ := Int.eq_ofNat_of_zero_le j0
      have hs2 : s = Str.ofString "raise" ∨ s = Str.ofString "lower" := by
        rcases hs with h | h | h | h | h
        · exact .inl h
        · exact .inr h
        · exact absurd h e
        · exact absurd h e1
        · exact absurd h e0
      rcases hs2 with rfl | rfl
      · exact k p (.up j) H4 (by tm_at "rfr") gp (show j < m by omega) (by tm_at "rkp") (by tm_at "rbx")
      · exact k p (.dn j) H4 (by tm_at "rfr") gp (show j < m by omega) (by tm_at "rkp") (by tm_at "rbx")
/-! ### _law_any_rows -/
theorem ok_f_law_any_rows {f : Addr} {fd : FuncData} (F : Fun K "_law_any_rows" "_law_any_rows" s_f_law_any_rows f fd)
    (D_f_law_take : Def P w K mg base CX0 "_law_take" 1 ["box", "wide"] (sp_f_law_take K))
    (D_f_law_row : Def P w K mg base CX0 "_law_row" 2 ["box", "boxes", "many"] (sp_f_law_row K))
    (m_range : mg "range" = none) :
    FnG P w K mg base CX0 3 f fd ["box", "boxes"] (sp_f_law_any_rows K) := by
  refine okG F sc_f_law_any_rows (fun vs H Q E h => ?_) (fun cdv A outer s H vs Q E hr h => ⟨_, (pss_cons (ps_set (i := 2) sc_f_law_any_rows.nd rfl (by first | exact Or.inl rfl | exact Or.inr rfl) (pe_op (op_gAdd (K := K) rfl) pe_int (pe_f D_f_law_take (hr.mono (by omega)) (by rfl) pass0 (pa_cons (pv 0) (pa_cons pe_int pa_nil)))))
    (pss_cons (ps_setLc (i := 3) rfl sc_f_law_any_rows.nd rfl rfl (sw_true rfl rfl rfl (by decide +kernel)) (pi_range1 (by rfl) m_range (pa_cons (pe_op op_sub (pv 2) pe_int) pa_nil)) (blkOk_by (own := [("k", 4)]) (N := ["box", "boxes", "many", "rows", "k"]) (sc := defScope s_f_law_any_rows) (by decide +kernel)) (fun _ _ _ _ _ => (pg_name (i := 4) sc_f_law_any_rows.nd rfl (by first | exact Or.inl rfl | exact Or.inr rfl))) (fun _ _ _ _ _ => pts_nil) (fun _ _ _ _ _ => (pe_f D_f_law_row (hr.mono (by omega)) (by rfl) pass0 (pa_cons (pv 0) (pa_cons (pv 1) (pa_cons (pv 2) pa_nil))))))
    (pss_one (ps_ret (pe_op (op_gAdd (K := K) rfl) (pv 3) (pe_lst (pa_cons (pe_ix (ix_g (K := K) rfl) (pe_lst (pa_cons (pe_tup (pa_cons pe_str pa_nil)) (pa_cons (pe_tup (pa_cons pe_str pa_nil)) (pa_cons (pe_tup (pa_cons pe_str (pa_cons (pe_f D_f_law_take (hr.mono (by omega)) (by rfl) pass0 (pa_cons (pv 0) (pa_cons (pv 2) pa_nil))) pa_nil))) pa_nil)))) (pe_f D_f_law_take (hr.mono (by omega)) (by rfl) pass0 (pa_cons (pv 0) (pa_cons pe_int pa_nil))) (fun _ _ => rfl)) pa_nil))))))), ?_⟩)
  · obtain ⟨_, _, rfl, _⟩ := h
    rfl
  · obtain ⟨b, m, rfl, hB, m1, m5, k⟩ := h
    try dsimp only [cxOf, Cx.nox, Cx.wish]
    change (_ : L2.TS) _ [some (.ref b), some (.int (m : Int)), none, none, none] _
    refine w_start ?_
    repeat' (tm_at "rs")
    rename_i n H1 n0 n1 k1 b1
    obtain ⟨n, rfl⟩ := Int.eq_ofNat_of_zero_le n0
    have en : (1 + (n : Int) - 1).toNat = n := by omega
    rw [en]
    refine lcR (fun D i H' => ∃ vs rs, H' D = some (.lst vs) ∧ RwsAt H' vs rs ∧ rs.length = i ∧ RwsOk m (1 + n) rs ∧ Kp b H1 H' ∧ BoxAt H' b) ?_ ?_ ?_
    · intro D H' nD sm hD
      exact ⟨[], [], hD, .nil, rfl, RwsOk.nil, by tm_at "rkp", by tm_at "rbx"⟩
    · rintro D i H' nD hi ⟨vs, rs, hD, hr, hl, ho, hk, hb⟩
      have hvl := paired_len hr
      repeat' (tm_at "rs")
      refine call_row (n := 1 + n) (by assumption) (by omega) (by omega) (by omega) (by omega) (fun p r H2 np gp ro k2 b2 => ?_)
      repeat' (tm_at "rs")
      rename_i H3 k3 g3
      have t2 : Tk H2 H3 := by tm_at "rtk"
      have t1 : Tk H' H3 := by tm_at "rtk"
      refine ⟨_, rs ++ [r], g3, paired_app (hr.tk t1) (.cons (rw_one (t2 _ _ gp)) .nil), by rw [List.length_append, hl]; rfl, ho.app (RwsOk.one ro), by tm_at "rkp", by tm_at "rbx"⟩
    · rintro D H2 nD ⟨vs, rs, hD, hr, hl, ho, hk, hb⟩
      have hvl := paired_len hr
      repeat' (tm_at "rs")
      rename_i s1 H3 n3 s3 g3 s2 H4 n4 s4 g4 g H5 g0 g1 k5 b5 s3' H6 n6 s6 g6 l1 H7 n7 s7 g7 t H8 t0 t1 k8 b8
      obtain ⟨g, rfl⟩ := Int.eq_ofNat_of_zero_le g0
      have a1 : Tk H3 H8 := by tm_at "rtk"
      have a2 : Tk H4 H8 := by tm_at "rtk"
      have a3 : Tk H6 H8 := by tm_at "rtk"
      refine w_ixP (fun x => ∃ r, RwAt H8 x r ∧ r.ok m (1 + n) ∧ r.ends) (.inl (by tm_at "rsq")) t0 (by show t < 3; omega) (all3 ⟨.st, rw_one (a1 _ _ g3), trivial, trivial⟩ ⟨.st, rw_one (a2 _ _ g4), trivial, trivial⟩ ⟨.go g, rw_one (a3 _ _ g6), (show g < 1 + n by omega), trivial⟩) (fun x hx => ?_)
      obtain ⟨r, hxr, ro, re⟩ := hx
      have hr8 : RwsAt H8 vs rs := hr.tk (by clear a1 a2 a3; tm_at "rtk")
      repeat' (tm_at "rs")
      rename_i q H9 nq sq gq q2 Ha nq2 sq2 gq2
      exact k _ _ (rs ++ [r]) _ (by tm_at "rfr") gq2 (paired_app (hr8.tk (Tk.trans (Tk.sm sq) (Tk.sm sq2))) (.cons (hxr.tk (Tk.trans (Tk.sm sq) (Tk.sm sq2))) .nil)) ⟨m1, m5, by rw [List.length_append, hl, Nat.add_comm]; exact ho.app (RwsOk.one ro), by rw [List.length_append, hl]; show n + 1 ≤ 14; omega, rs, r, rfl, re⟩ (by tm_at "rkp") (by tm_at "rbx")
/-! ### _law_some_program -/
theorem ok_f_law_some_program {f : Addr} {fd : FuncData} (F : Fun K "_law_some_program" "_law_some_program" s_f_law_some_program f fd)
    (D_f_law_take : Def P w K mg base CX0 "_law_take" 1 ["box", "wide"] (sp_f_law_take K))
    (D_f_law_ending_rows : Def P w K mg base CX0 "_law_ending_rows" 3 ["box", "boxes"] (sp_f_law_ending_rows K))
    (D_f_law_any_rows : Def P w K mg base CX0 "_law_any_rows" 3 ["box", "boxes"] (sp_f_law_any_rows K)) :
    FnG P w K mg base CX0 4 f fd ["box"] (sp_f_law_some_program K) := by
  refine okG F sc_f_law_some_program (fun vs H Q E h => ?_) (fun cdv A outer s H vs Q E hr h => ⟨_, (pss_cons (ps_set (i := 1) sc_f_law_some_program.nd rfl (by first | exact Or.inl rfl | exact Or.inr rfl) (pe_op (op_gAdd (K := K) rfl) pe_int (pe_f D_f_law_take (hr.mono (by omega)) (by rfl) pass0 (pa_cons (pv 0) (pa_cons pe_int pa_nil)))))
    (pss_cons (ps_if (pt_cmpR (op_gEq (K := K) rfl hr.units) (pe_f D_f_law_take (hr.mono (by omega)) (by rfl) pass0 (pa_cons (pv 0) (pa_cons pe_int pa_nil))) pe_int (nomark _)) (pss_one (ps_ret (pe_tup (pa_cons (pv 1) (pa_cons (pe_f D_f_law_any_rows (hr.mono (by omega)) (by rfl) pass0 (pa_cons (pv 0) (pa_cons (pv 1) pa_nil))) pa_nil))))) pss_nil)
    (pss_one (ps_ret (pe_tup (pa_cons (pv 1) (pa_cons (pe_f D_f_law_ending_rows (hr.mono (by omega)) (by rfl) pass0 (pa_cons (pv 0) (pa_cons (pv 1) pa_nil))) pa_nil))))))), ?_⟩)
  · obtain ⟨_, rfl, _⟩ := h
    rfl
  · obtain ⟨b, rfl, hB, k⟩ := h
    try dsimp only [cxOf, Cx.nox, Cx.wish]
    change (_ : L2.TS) _ [some (.ref b), none] _
    refine w_start ?_
    repeat' (tm_at "rs")
    · rename_i m H1 m0 m1 k1 b1 z H2 z0 z1 k2 b2 e
      obtain ⟨m, rfl⟩ := Int.eq_ofNat_of_zero_le m0
      refine call_anyRows (m := 1 + m) b2 (by omega) (by omega) (fun p vs rs H3 np gp hr hg k3 b3 => ?_)
      repeat' (tm_at "rs")
      rename_i q H4 nq sq gq
      exact k q p (1 + m) vs rs H4 (by tm_at "rfr") gq (sq _ _ gp) (hr.tk (Tk.sm sq)) hg (by tm_at "rkp") (by tm_at "rbx")
    · rename_i m H1 m0 m1 k1 b1 z H2 z0 z1 k2 b2 e
      obtain ⟨m, rfl⟩ := Int.eq_ofNat_of_zero_le m0
      refine call_endingRows (m := 1 + m) b2 (by omega) (by omega) (fun p vs rs H3 np gp hr hg k3 b3 => ?_)
      repeat' (tm_at "rs")
      rename_i q H4 nq sq gq
      exact k q p (1 + m) vs rs H4 (by tm_at "rfr") gq (sq _ _ gp) (hr.tk (Tk.sm sq)) hg (by tm_at "rkp") (by tm_at "rbx")
/-! ### _law_begin -/
theorem ok_f_law_begin {f : Addr} {fd : FuncData} (F : Fun K "_law_begin" "_law_begin" s_f_law_begin f fd)
    (D_f_law_take : Def P w K mg base CX0 "_law_take" 1 ["box", "wide"] (sp_f_law_take K))
    (m_range : mg "range" = none)
    (m_int : mg "int" = none) :
    FnG P w K mg base CX0 2 f fd ["box", "boxes"] (sp_f_law_begin K) := by
  refine okG F sc_f_law_begin (fun vs H Q E h => ?_) (fun cdv A outer s H vs Q E hr h => ⟨_, (pss_cons (ps_setLc (i := 2) rfl sc_f_law_begin.nd rfl rfl (sw_true rfl rfl rfl (by decide +kernel)) (pi_range1 (by rfl) m_range (pa_cons (pv 1) pa_nil)) (blkOk_by (own := [("j", 3)]) (N := ["box", "boxes", "found", "j", "turn"]) (sc := defScope s_f_law_begin) (by decide +kernel)) (fun _ _ _ _ _ => (pg_name (i := 3) sc_f_law_begin.nd rfl (by first | exact Or.inl rfl | exact Or.inr rfl))) (fun _ _ _ _ _ => pts_nil) (fun _ _ _ _ _ => (pe_f D_f_law_take (hr.mono (by omega)) (by rfl) pass0 (pa_cons (pv 0) (pa_cons pe_int pa_nil)))))
    (pss_cons (ps_for PassesOwn.never rfl (pi_range1 (by rfl) m_range (pa_cons (pe_op op_gMul (pe_op (op_gAdd (K := K) rfl) pe_int (pe_op op_gMul pe_int (pe_f D_f_law_take (hr.mono (by omega)) (by rfl) pass0 (pa_cons (pv 0) (pa_cons pe_int pa_nil))))) (pe_callTy call_gInt (by rfl) m_int PyProof.Rows.boot_int (pa_cons (pe_cmpR (op_gEq (K := K) rfl hr.units) (pe_f D_f_law_take (hr.mono (by omega)) (by rfl) pass0 (pa_cons (pv 0) (pa_cons pe_int pa_nil))) pe_int (nomark _)) pa_nil))) pa_nil)) (pg_name (i := 4) sc_f_law_begin.nd rfl (by first | exact Or.inl rfl | exact Or.inr rfl)) (pss_one (ps_asg (pe_f D_f_law_take (hr.mono (by omega)) (by rfl) pass0 (pa_cons (pv 0) (pa_cons pe_int pa_nil))) (pg_sub (pv 2) (pe_f D_f_law_take (hr.mono (by omega)) (by rfl) pass0 (pa_cons (pv 0) (pa_cons (pv 1) pa_nil))) set_list))))
    (pss_one (ps_ret (pv 2))))), ?_⟩)
  · obtain ⟨_, _, rfl, _⟩ := h
    rfl
  · obtain ⟨b, m, rfl, hB, m1, m5, k⟩ := h
    try dsimp only [cxOf, Cx.nox, Cx.wish]
    change (_ : L2.TS) _ [some (.ref b), some (.int (m : Nat)), none, none, none] _
    refine w_start ?_
    have hm : ((m : Int)).toNat = m := Int.toNat_natCast m
    repeat' (tm_at "rs")
    rw [hm]
    refine lcR (fun D i H' => ∃ cs, H' D = some (.lst (nV cs)) ∧ cs.length = i ∧ (∀ c ∈ cs, c ≤ 500) ∧ Kp b H H' ∧ BoxAt H' b) ?_ ?_ ?_
    · intro D H' nD sm hD
      exact ⟨[], hD, rfl, (fun c hc => by cases hc), by tm_at "rkp", by tm_at "rbx"⟩
    · rintro D i H' nD hi ⟨cs, hD, hl, hc, hk, hb⟩
      have hcl := nV_len cs
      repeat' (tm_at "rs")
      rename_i x H2 x0 x1 k2 b2 H3 k3 g3
      obtain ⟨x, rfl⟩ := Int.eq_ofNat_of_zero_le x0
      refine ⟨cs ++ [x], by rw [nV_snoc]; exact g3, by rw [List.length_append, hl]; rfl, fun c h => ?_, by tm_at "rkp", by tm_at "rbx"⟩
      rcases List.mem_append.mp h with h | h
      · exact hc c h
      · rw [List.mem_singleton.mp h]
        omega
    · rintro D H1 nD ⟨cs, hD, hl, hc, hk, hb⟩
      repeat' (tm_at "rs")
      all_goals
        rename_i x H2 x0 x1 k2 b2 y H3 y0 y1 k3 b3 e
        have hDb : D ≠ b := by
          intro e
          obtain ⟨_, _, q, _⟩ := hB
          rw [e, q] at nD
          cases nD
        have hD3 : H3 D = some (.lst (nV cs)) := by tm_at "rlk"
        refine loopR (fun i σ' H' => ∃ (x3 x4 : Option V) (cs : List Nat), σ' = [some (.ref b), some (.int (m : Nat)), some (.ref D), x3, x4] ∧ H' D = some (.lst (nV cs)) ∧ cs.length = m ∧ (∀ c ∈ cs, c ≤ 500) ∧ Kp b H H' ∧ BoxAt H' b) ?_ ?_ ?_
        · exact ⟨_, _, cs, rfl, hD3, hl, hc, by tm_at "rkp", by tm_at "rbx"⟩
        · rintro i σ' H4 hi ⟨x3, x4, ds, rfl, hD4, hl4, hc4, hk4, hb4⟩
          have hdl := nV_len ds
          repeat' (tm_at "rs")
          rename_i z H5 z0 z1 k5 b5 w H6 w0 w1 k6 b6
          obtain ⟨z, rfl⟩ := Int.eq_ofNat_of_zero_le z0
          obtain ⟨w, rfl⟩ := Int.eq_ofNat_of_zero_le w0
          refine w_setL (n := w) (by tm_at "rlk") (by unfold ixN; rw [if_pos w0, if_pos (by omega), Int.toNat_natCast]) (fun H7 k7 g7 => ?_)
          refine ⟨_, _, ds.set w z, rfl, by rw [g7]; unfold nV; rw [List.map_set], by rw [List.length_set]; exact hl4, fun c h => ?_, by tm_at "rkp", by tm_at "rbx"⟩
          rcases List.mem_or_eq_of_mem_set h with h | h
          · exact hc4 c h
          · omega
        · rintro σ' H4 ⟨x3, x4, ds, rfl, hD4, hl4, hc4, hk4, hb4⟩
          repeat' (tm_at "rs")
          exact k D ds H4 nD hD4 hl4 hc4 hk4 hb4
/-! ### _law_after -/
theorem ok_f_law_after {f : Addr} {fd : FuncData} (F : Fun K "_law_after" "_law_after" s_f_law_after f fd)
    (m_int : mg "int" = none) :
    FnG P w K mg base CX0 1 f fd ["rows", "stand"] (sp_f_law_after K) := by
  refine okG F sc_f_law_after (fun vs H Q E h => ?_) (fun cdv A outer s H vs Q E hr h => ⟨_, (pss_cons (ps_asg (pv 1) (pg_gt (K := K) (n := 2) rfl rfl (pgs_cons (pg_name (i := 2) sc_f_law_after.nd rfl (by first | exact Or.inl rfl | exact Or.inr rfl)) (pgs_cons (pg_name (i := 3) sc_f_law_after.nd rfl (by first | exact Or.inl rfl | exact Or.inr rfl)) pgs_nil))))
    (pss_cons (ps_set (i := 4) sc_f_law_after.nd rfl (by first | exact Or.inl rfl | exact Or.inr rfl) (pe_ix (ix_g (K := K) rfl) (pe_ix (ix_g (K := K) rfl) (pv 0) (pv 2) (fun _ _ => rfl)) pe_int (fun _ _ => rfl)))
    (pss_cons (ps_if (pt_cmpR (op_gEq (K := K) rfl hr.units) (pv 4) pe_str (nomark _)) (pss_one (ps_ret pe_non)) pss_nil)
    (pss_cons (ps_if (pt_cmpR (op_gEq (K := K) rfl hr.units) (pv 4) pe_str (nomark _)) (pss_one (ps_ret (pe_tup (pa_cons (pe_ix (ix_g (K := K) rfl) (pe_ix (ix_g (K := K) rfl) (pv 0) (pv 2) (fun _ _ => rfl)) pe_int (fun _ _ => rfl)) (pa_cons (pv 3) pa_nil))))) pss_nil)
    (pss_cons (ps_set (i := 5) sc_f_law_after.nd rfl (by first | exact Or.inl rfl | exact Or.inr rfl) (pe_ix (ix_g (K := K) rfl) (pe_ix (ix_g (K := K) rfl) (pv 0) (pv 2) (fun _ _ => rfl)) pe_int (fun _ _ => rfl)))
    (pss_cons (ps_if (pt_cmpR (op_gEq (K := K) rfl hr.units) (pv 4) pe_str (nomark _)) (pss_one (ps_ret (pe_tup (pa_cons (pe_ix (ix_g (K := K) rfl) (pe_lst (pa_cons (pe_op (op_gAdd (K := K) rfl) (pv 2) pe_int) (pa_cons (pe_ix (ix_g (K := K) rfl) (pe_ix (ix_g (K := K) rfl) (pv 0) (pv 2) (fun _ _ => rfl)) pe_int (fun _ _ => rfl)) pa_nil))) (pe_callTy call_gInt (by rfl) m_int PyProof.Rows.boot_int (pa_cons (pe_cmpR (op_gEq (K := K) rfl hr.units) (pe_ix (ix_g (K := K) rfl) (pv 3) (pv 5) (fun _ _ => rfl)) pe_int (nomark _)) pa_nil)) (fun _ _ => rfl)) (pa_cons (pv 3) pa_nil))))) pss_nil)
    (pss_cons (ps_if (PW.pt (pw_and (pt_cmpR (op_gEq (K := K) rfl hr.units) (pv 4) pe_str (nomark _)) (pw_and1 (pt_cmpR (op_gEq (K := K) rfl hr.units) (pe_ix (ix_g (K := K) rfl) (pv 3) (pv 5) (fun _ _ => rfl)) pe_int (nomark _))))) (pss_one (ps_ret pe_non)) pss_nil)
    (pss_cons (ps_set (i := 6) sc_f_law_after.nd rfl (by first | exact Or.inl rfl | exact Or.inr rfl) (pe_ix (ix_g (K := K) rfl) (pe_lst (pa_cons (pe_un un_neg pe_int) (pa_cons pe_int pa_nil))) (pe_callTy call_gInt (by rfl) m_int PyProof.Rows.boot_int (pa_cons (pe_cmpR (op_gEq (K := K) rfl hr.units) (pv 4) pe_str (nomark _)) pa_nil)) (fun _ _ => rfl)))
    (pss_one (ps_ret (pe_tup (pa_cons (pe_op (op_gAdd (K := K) rfl) (pv 2) pe_int) (pa_cons (pe_op (op_gAdd (K := K) rfl) (pe_op (op_gAdd (K := K) rfl) (pe_slice (sl_gl (K := K) rfl) (pv 3) po_none (po_some (pv 5))) (pe_tup (pa_cons (pe_op (op_gAdd (K := K) rfl) (pe_ix (ix_g (K := K) rfl) (pv 3) (pv 5) (fun _ _ => rfl)) (pv 6)) pa_nil))) (pe_slice (sl_gl (K := K) rfl) (pv 3) (po_some (pe_op (op_gAdd (K := K) rfl) (pv 5) pe_int)) po_none)) pa_nil))))))))))))), ?_⟩)
  · obtain ⟨_, _, _, _, _, _, _, rfl, _⟩ := h
    rfl
  · obtain ⟨a, z, m, k, cs, us, rs, rfl, ha, hr, hz, hg, hk, hc, kk⟩ := h
    try dsimp only [cxOf, Cx.nox, Cx.wish]
    change (_ : L2.TS) _ [some (.ref a), some (z), none, none, none, none, none] _
    refine w_start ?_
    obtain ⟨p0, t0, rfl, hs, ht⟩ := hz
    obtain ⟨r, hrk⟩ : ∃ r, rs[k]? = some r := ⟨_, List.getElem?_eq_getElem hk⟩
    have hro := hg.ok r (List.mem_of_getElem? hrk)
    have hcl := nV_len cs
    have hc5 : cs.length ≤ 5 := by have := hg.b5; omega
    have hz1 : ∀ j : Nat, (cutV (nV cs) none (some (j : Int))).length ≤ 5 := fun j => Nat.le_trans cut_len (by omega)
    have hz2 : ∀ j : Nat, (cutV (nV cs) (some ((j : Int) + 1)) none).length ≤ 5 := fun j => Nat.le_trans cut_len (by omega)
    repeat' (tm_at "rs")
    refine w_ixRow ha hr hrk (fun p hp => ?_)
    cases r
    · rename_i j
      have hz1 := hz1 j
      have hz2 := hz2 j
      have hj : j < cs.length := by rw [hc]; exact hro
      have hat := nV_at hj
      have hp : H p = some (.tup [.str "raise", .int (j : Int)]) := hp
      repeat' (tm_at "rs")
      refine w_ixRow ha hr hrk (fun p hp => ?_)
      have hp : H p = some (.tup [.str "raise", .int (j : Int)]) := hp
      repeat' (tm_at "rs")
      rename_i l1 Ha n1 s1 g1 q1 Hb s2 g2 q2 Hc n3 s3 g3 q3 Hd s4 g4 q4 He s5 g5 q5 Hf s6 g6 u Hg n7 s7 g7
      rw [set_cat (n := cs.getD j 0 + 1) hj (by omega)] at g6
      exact kk _ _ (by tm_at "rsm") (by rw [aft_up hrk]; exact ⟨u, q5, rfl, g7, s7 _ _ g6⟩)
    · rename_i j
      have hz1 := hz1 j
      have hz2 := hz2 j
      have hj : j < cs.length := by rw [hc]; exact hro
      have hat := nV_at hj
      have hp : H p = some (.tup [.str "lower", .int (j : Int)]) := hp
      repeat' (tm_at "rs")
      refine w_ixRow ha hr hrk (fun p hp => ?_)
      have hp : H p = some (.tup [.str "lower", .int (j : Int)]) := hp
      repeat' (tm_at "rs")
      · rename_i e
        exact kk _ _ (Same.refl _) (by rw [aft_dn0 hrk (by omega)]; rfl)
      · rename_i e l1 Ha n1 s1 g1 q1 Hb s2 g2 q2 Hc n3 s3 g3 q3 Hd s4 g4 q4 He s5 g5 q5 Hf s6 g6 u Hg n7 s7 g7
        rw [set_cat (n := cs.getD j 0 - 1) hj (by omega)] at g6
        exact kk _ _ (by tm_at "rsm") (by rw [aft_dn hrk (by omega)]; exact ⟨u, q5, rfl, g7, s7 _ _ g6⟩)
    · rename_i j g
      have hj : j < cs.length := by rw [hc]; exact hro.1
      have hat := nV_at hj
      have hp : H p = some (.tup [.str "if", .int (j : Int), .int (g : Int)]) := hp
      repeat' (tm_at "rs")
      refine w_ixRow ha hr hrk (fun p hp => ?_)
      have hp : H p = some (.tup [.str "if", .int (j : Int), .int (g : Int)]) := hp
      repeat' (tm_at "rs")
      refine w_ixRow ha hr hrk (fun p hp => ?_)
      have hp : H p = some (.tup [.str "if", .int (j : Int), .int (g : Int)]) := hp
      repeat' (tm_at "rs")
      · rename_i l1 H2 n2 s2 g2 e u H3 n3 s3 g3
        exact kk _ _ (by tm_at "rsm") (by rw [aft_br0 hrk (by omega)]; exact ⟨u, t0, rfl, g3, by tm_at "rlk"⟩)
      · rename_i l1 H2 n2 s2 g2 e u H3 n3 s3 g3
        exact kk _ _ (by tm_at "rsm") (by rw [aft_br hrk (by omega)]; exact ⟨u, t0, rfl, g3, by tm_at "rlk"⟩)
    · rename_i g
      have hp : H p = some (.tup [.str "go", .int (g : Int)]) := hp
      repeat' (tm_at "rs")
      refine w_ixRow ha hr hrk (fun p hp => ?_)
      have hp : H p = some (.tup [.str "go", .int (g : Int)]) := hp
      repeat' (tm_at "rs")
      rename_i u H2 n2 s2 g2
      exact kk _ _ (by tm_at "rsm") (by rw [aft_go hrk]; exact ⟨u, t0, rfl, g2, by tm_at "rlk"⟩)
    · have hp : H p = some (.tup [.str "stop"]) := hp
      repeat' (tm_at "rs")
      exact kk _ _ (Same.refl _) (by rw [aft_st hrk]; rfl)
/-! ### _law_run -/
theorem ok_f_law_run {f : Addr} {fd : FuncData} (F : Fun K "_law_run" "_law_run" s_f_law_run f fd)
    (D_f_law_after : Def P w K mg base CX0 "_law_after" 1 ["rows", "stand"] (sp_f_law_after K))
    (m_tuple : mg "tuple" = none)
    (m_len : mg "len" = none) :
    FnG P w K mg base CX0 2 f fd ["rows", "begin", "limit"] (sp_f_law_run K) := by
  refine okG F sc_f_law_run (fun vs H Q E h => ?_) (fun cdv A outer s H vs Q E hr h => ⟨_, (pss_cons (ps_set (i := 3) sc_f_law_run.nd rfl (by first | exact Or.inl rfl | exact Or.inr rfl) (pe_lst (pa_cons (pe_tup (pa_cons pe_int (pa_cons (pe_callTy (call_gTuple (K := K) rfl) (by rfl) m_tuple PyProof.Rows.boot_tuple (pa_cons (pv 1) pa_nil)) pa_nil))) pa_nil)))
    (pss_cons (ps_while PassesOwn.never (PW.pt (pw_and (pt_cmpR op_gLe (pe_callB (call_gLen (K := K) rfl) (by rfl) m_len PySem.boot_len (pa_cons (pv 3) pa_nil)) (pv 2) (nomark _)) (pw_and1 (pt_cmpR op_gNot (pe_f D_f_law_after (hr.mono (by omega)) (by rfl) pass0 (pa_cons (pv 0) (pa_cons (pe_ix (ix_g (K := K) rfl) (pv 3) (pe_un un_neg pe_int) (fun _ _ => rfl)) pa_nil))) pe_non (nomark _))))) (pss_one (ps_expr (pe_gbm (K := K) rfl PySem.F.plainAttrs_list PySem.F.slot_list_append PySem.F.type_list_append mt_append (pv 3) (pa_cons (pe_f D_f_law_after (hr.mono (by omega)) (by rfl) pass0 (pa_cons (pv 0) (pa_cons (pe_ix (ix_g (K := K) rfl) (pv 3) (pe_un un_neg pe_int) (fun _ _ => rfl)) pa_nil))) pa_nil)))))
    (pss_cons (ps_if (pt_cmpR (op_gEq (K := K) rfl hr.units) (pe_ix (ix_g (K := K) rfl) (pe_ix (ix_g (K := K) rfl) (pv 0) (pe_ix (ix_g (K := K) rfl) (pe_ix (ix_g (K := K) rfl) (pv 3) (pe_un un_neg pe_int) (fun _ _ => rfl)) pe_int (fun _ _ => rfl)) (fun _ _ => rfl)) pe_int (fun _ _ => rfl)) pe_str (nomark _)) (pss_one (ps_ret (pe_tup (pa_cons pe_str (pa_cons (pv 3) pa_nil))))) pss_nil)
    (pss_cons (ps_if (pt_cmpR op_gIs (pe_f D_f_law_after (hr.mono (by omega)) (by rfl) pass0 (pa_cons (pv 0) (pa_cons (pe_ix (ix_g (K := K) rfl) (pv 3) (pe_un un_neg pe_int) (fun _ _ => rfl)) pa_nil))) pe_non (nomark _)) (pss_one (ps_ret (pe_tup (pa_cons pe_str (pa_cons (pv 3) pa_nil))))) pss_nil)
    (pss_one (ps_ret (pe_tup (pa_cons pe_str (pa_cons (pv 3) pa_nil))))))))), ?_⟩)
  · obtain ⟨_, _, _, _, _, _, _, rfl, _⟩ := h
    rfl
  · obtain ⟨a, bp, m, M, us, bs, rs, rfl, ha, hr, hb, hg, hl, hM, k⟩ := h
    try dsimp only [cxOf, Cx.nox, Cx.wish]
    change (_ : L2.TS) _ [some (.ref a), some (.ref bp), some (.int (M : Nat)), none] _
    refine w_start ?_
    have hbl := nV_len bs
    repeat' (tm_at "rs")
    refine w_gTpl2 hb (fun t0 H1 s1 g1 => ?_)
    repeat' (tm_at "rs")
    rename_i t1 H2 n2 s2 g2 L H3 nL s3 g3
    have hLn : H L = none := by tm_at "rfr"
    have hs0 : H3 t1 = some (.tup [.int 0, .ref t0]) := by tm_at "rlk"
    have hst : StdAt H3 (.ref t1) 0 bs := ⟨t1, t0, rfl, hs0, by tm_at "rlk"⟩
    have hpos := hg.pos
    refine w_while (fun n σ' H' => ∃ pre last xs, σ' = [some (.ref a), some (.ref bp), some (.int (M : Nat)), some (.ref L)] ∧ H' L = some (.lst xs) ∧ SdL H' xs (pre ++ [last]) ∧ runL rs M (0, bs) = pre ++ runL rs (M - pre.length) last ∧ pre.length ≤ M ∧ last.1 < rs.length ∧ last.2.length = m ∧ Kp L H3 H' ∧ n + pre.length = M) M ⟨[], (0, bs), _, rfl, g3, .cons hst .nil, rfl, Nat.zero_le _, hpos, hl, Kp.refl _, rfl⟩ ?_
    rintro n σ' H' ⟨pre, last, xs, rfl, hL, hx, hrun, hpl, h1, h2, hkp, hn⟩
    have hxl : xs.length = pre.length + 1 := by rw [paired_len hx, List.length_append]; rfl
    have hsm : Sm H H' := by tm_at "rsm"
    have ha' := hsm _ _ ha
    have hr' := hr.tk (Tk.sm hsm)
    clear ha hr hb hst
    obtain ⟨ys, x, rfl, hys, hxs⟩ := paired_last hx
    obtain ⟨p0, q0, rfl, hp0, hq0⟩ := id hxs
    have hat := atI_last ys (V.ref p0)
    obtain ⟨r, hrk⟩ : ∃ r, rs[last.1]? = some r := ⟨_, List.getElem?_eq_getElem h1⟩
    obtain ⟨zs, hz⟩ := r.vs_word
    have hz0 : atI r.vs 0 = some (.str r.word) := by rw [hz]; exact atI_nat (j := 0) rfl
    have hw := r.word_st
    have hxl2 : (ys ++ [V.ref p0]).length ≤ 1001 := by omega
    cases hA : aftr rs last.1 last.2 with
    | none =>
      repeat' (tm_at "rs")
      · rename_i hle H5 s5 pr hpr e t6 H6 n6 s6 g6
        have hrs := hw.mp e
        subst hrs
        exact k t6 L _ pre last H6 hLn (by tm_at "rsm") (by rw [wordR_st hrk]; exact g6) (by tm_at "rlk") (hx.tk (by tm_at "rtk")) (runL_end hrun (.inl hA))
      · rename_i hle H5 s5 pr hpr e H5' s5' t6 H6 n6 s6 g6
        exact k t6 L _ pre last H6 hLn (by tm_at "rsm") (by rw [wordR_stuck hrk (fun z => e (hw.mpr z)) hA]; exact g6) (by tm_at "rlk") (hx.tk (by tm_at "rtk")) (runL_end hrun (.inl hA))
      · rename_i hle pr hpr e t6 H6 n6 s6 g6
        have hrs := hw.mp e
        subst hrs
        exact k t6 L _ pre last H6 hLn (by tm_at "rsm") (by rw [wordR_st hrk]; exact g6) (by tm_at "rlk") (hx.tk (by tm_at "rtk")) (runL_end hrun (.inl hA))
      · rename_i hle pr hpr e H5' s5' t6 H6 n6 s6 g6
        exact k t6 L _ pre last H6 hLn (by tm_at "rsm") (by rw [wordR_stuck hrk (fun z => e (hw.mpr z)) hA]; exact g6) (by tm_at "rlk") (hx.tk (by tm_at "rtk")) (runL_end hrun (.inl hA))
    | some s' =>
      have hk' : s'.1 < rs.length := aft_in hg hA
      have hc' : s'.2.length = m := aft_len hg h2 hA
      repeat' (tm_at "rs")
      · rename_i hle p5 H5 s5 hs5 p6 H6 s6 hs6 H7 k7 g7
        have t6 : Tk H6 H7 := by tm_at "rtk"
        have t5 : Tk H' H7 := by clear t6; tm_at "rtk"
        exact ⟨n - 1, by omega, pre ++ [last], s', _, rfl, g7, paired_app (hx.tk t5) (.cons (hs6.tk t6) .nil), runL_more hrun hA (by omega), by rw [List.length_append]; show pre.length + 1 ≤ M; omega, hk', hc', by tm_at "rkp", by rw [List.length_append]; show n - 1 + (pre.length + 1) = M; omega⟩
      · rename_i hle pr hpr e t6 H6 n6 s6 g6
        have hrs := hw.mp e
        subst hrs
        rw [aft_st hrk] at hA
        cases hA
      · rename_i hle pr hpr e p5 H5 s5 hs5 t6 H6 n6 s6 g6
        exact k t6 L _ pre last H6 hLn (by tm_at "rsm") (by rw [wordR_going hA]; exact g6) (by tm_at "rlk") (hx.tk (by tm_at "rtk")) (runL_end hrun (.inr (by omega)))
/-! ### _law_stopping -/
theorem ok_f_law_stopping {f : Addr} {fd : FuncData} (F : Fun K "_law_stopping" "_law_stopping" s_f_law_stopping f fd)
    (D_f_law_some_program : Def P w K mg base CX0 "_law_some_program" 4 ["box"] (sp_f_law_some_program K))
    (D_f_law_begin : Def P w K mg base CX0 "_law_begin" 2 ["box", "boxes"] (sp_f_law_begin K))
    (D_f_law_run : Def P w K mg base CX0 "_law_run" 2 ["rows", "begin", "limit"] (sp_f_law_run K))
    (m_range : mg "range" = none)
    (m_tuple : mg "tuple" = none) :
    FnG P w K mg base CX0 5 f fd ["box", "limit"] (sp_f_law_stopping K) := by
  refine okG F sc_f_law_stopping (fun vs H Q E h => ?_) (fun cdv A outer s H vs Q E hr h => ⟨_, (pss_cons (ps_for PassesOwn.never rfl (pi_range1 (by rfl) m_range (pa_cons pe_int pa_nil)) (pg_name (i := 2) sc_f_law_stopping.nd rfl (by first | exact Or.inl rfl | exact Or.inr rfl)) (pss_cons (ps_asg (pe_f D_f_law_some_program (hr.mono (by omega)) (by rfl) pass0 (pa_cons (pv 0) pa_nil)) (pg_gt (K := K) (n := 2) rfl rfl (pgs_cons (pg_name (i := 3) sc_f_law_stopping.nd rfl (by first | exact Or.inl rfl | exact Or.inr rfl)) (pgs_cons (pg_name (i := 4) sc_f_law_stopping.nd rfl (by first | exact Or.inl rfl | exact Or.inr rfl)) pgs_nil))))
    (pss_cons (ps_set (i := 5) sc_f_law_stopping.nd rfl (by first | exact Or.inl rfl | exact Or.inr rfl) (pe_f D_f_law_begin (hr.mono (by omega)) (by rfl) pass0 (pa_cons (pv 0) (pa_cons (pv 3) pa_nil))))
    (pss_cons (ps_asg (pe_f D_f_law_run (hr.mono (by omega)) (by rfl) pass0 (pa_cons (pv 4) (pa_cons (pv 5) (pa_cons (pv 1) pa_nil)))) (pg_gt (K := K) (n := 2) rfl rfl (pgs_cons (pg_name (i := 6) sc_f_law_stopping.nd rfl (by first | exact Or.inl rfl | exact Or.inr rfl)) (pgs_cons (pg_name (i := 7) sc_f_law_stopping.nd rfl (by first | exact Or.inl rfl | exact Or.inr rfl)) pgs_nil))))
    (pss_one (ps_if (pt_cmpR (op_gEq (K := K) rfl hr.units) (pv 6) pe_str (nomark _)) (pss_one (ps_ret (pe_tup (pa_cons (pv 3) (pa_cons (pv 4) (pa_cons (pv 5) (pa_cons (pv 7) pa_nil))))))) pss_nil))))))
    (pss_one (ps_ret (pe_tup (pa_cons (pv 3) (pa_cons (pe_lst (pa_cons (pe_tup (pa_cons pe_str pa_nil)) pa_nil)) (pa_cons (pv 5) (pa_cons (pe_lst (pa_cons (pe_tup (pa_cons pe_int (pa_cons (pe_callTy (call_gTuple (K := K) rfl) (by rfl) m_tuple PyProof.Rows.boot_tuple (pa_cons (pv 5) pa_nil)) pa_nil))) pa_nil)) pa_nil)))))))), ?_⟩)
  · obtain ⟨_, _, rfl, _⟩ := h
    rfl
  · obtain ⟨b, M, rfl, hB, hM, k⟩ := h
    try dsimp only [cxOf, Cx.nox, Cx.wish]
    change (_ : L2.TS) _ [some (.ref b), some (.int (M : Nat)), none, none, none, none, none, none] _
    refine w_start ?_
    repeat' (tm_at "rs")
    refine loopR (fun i σ' H' => ∃ (x2 x3 x4 x5 x6 x7 : Option V), σ' = [some (.ref b), some (.int (M : Nat)), x2, x3, x4, x5, x6, x7] ∧ BoxAt H' b ∧ Kp b H H' ∧ (i = 0 ∨ ∃ (m : Nat) (bp : Addr) (bs : List Nat), x3 = some (.int (m : Nat)) ∧ x5 = some (.ref bp) ∧ H bp = none ∧ H' bp = some (.lst (nV bs)) ∧ bs.length = m ∧ 1 ≤ m ∧ m ≤ 5 ∧ ∀ c ∈ bs, c ≤ 500)) ⟨_, _, _, _, _, _, rfl, hB, Kp.refl _, .inl rfl⟩ ?_ ?_
    · rintro i σ' H' hi ⟨x2, x3, x4, x5, x6, x7, rfl, hb, hk, _⟩
      repeat' (tm_at "rs")
      rename_i t p m us rs H1 np gt gp hr hg k1 b1
      refine call_begin b1 hg.b1 hg.b5 (fun bp bs H2 nb gb hbl hbc k2 b2 => ?_)
      have pb : p ≠ b := ne_newB np hb
      have bb : bp ≠ b := ne_newB nb b1
      have pbp : p ≠ bp := ne_of_none gp nb
      have gp2 := k2 _ _ pb gp
      have hr2 := hr.tk (Tk.kb b1 k2)
      repeat' (tm_at "rs")
      refine call_run gp2 hr2 (.inl gb) hg hbl (by omega) (fun t2 q xs pre last H3 nq s3 gt2 gq hx hrun => ?_)
      have nbH : H bp = none := kp_free (Kp.trans hk k1) bb nb
      have npH : H p = none := kp_free hk pb np
      have bqne : q ≠ b := ne_newB nq b2
      have nqH : H q = none := kp_free (Kp.trans hk (Kp.trans k1 k2)) bqne nq
      have b3 := b2.sm s3
      have k3 : Kp b H H3 := Kp.trans hk (Kp.trans k1 (Kp.trans k2 (Kp.of s3)))
      have gb3 := s3 _ _ gb
      have gp3 := s3 _ _ gp2
      have hr3 := hr2.tk (Tk.sm s3)
      have nbq : bp ≠ q := ne_of_none gb nq
      have npq : p ≠ q := ne_of_none gp2 nq
      repeat' (tm_at "rs")
      · rename_i e T H4 nT sT gT
        have hst := word_stp.mp e
        have hlen := (runL_len rs M (0, bs)).2
        refine k T p bp q m rs bs (pre ++ [last]) H4 npH nbH nqH pbp nbq npq gT ⟨⟨_, sT _ _ gp3, hr3.tk (Tk.sm sT)⟩, sT _ _ gb3, ⟨_, sT _ _ gq, hx.tk (Tk.sm sT)⟩⟩ ⟨hg, hbl, hbc, StopsR.of hrun hst, by rw [← hrun]; exact hlen⟩ (Kp.trans k3 (Kp.of sT)) (b3.sm sT)
      · exact ⟨_, _, _, _, _, _, rfl, b3, k3, .inr ⟨m, bp, bs, rfl, rfl, nbH, gb3, hbl, hg.b1, hg.b5, hbc⟩⟩
    · rintro σ' H' ⟨x2, x3, x4, x5, x6, x7, rfl, hb, hk, h0 | ⟨m, bp, bs, rfl, rfl, nb, gb, hl, m1, m5, hc⟩⟩
      · cases h0
      repeat' (tm_at "rs")
      rename_i A H1 nA sA gA P H2 nP sP gP C H3 nC sC gC D H4 nD sD gD E1 H5 nE sE gE T H6 nT sT gT
      have Pb : P ≠ b := ne_newB nP (hb.sm sA)
      have Eb : E1 ≠ b := ne_newB nE (hb.sm (sA.trans (sP.trans (sC.trans sD))))
      have nPH : H P = none := kp_free (Kp.trans hk (Kp.of sA)) Pb nP
      have nEH : H E1 = none := kp_free (Kp.trans hk (Kp.of (sA.trans (sP.trans (sC.trans sD))))) Eb nE
      have s26 := sC.trans (sD.trans (sE.trans sT))
      have s16 := sP.trans s26
      have s06 := sA.trans s16
      have hg : Prg m [Rw.st] := ⟨m1, m5, fun r hr => by rw [List.mem_singleton.mp hr]; trivial, by decide, [], .st, rfl, trivial⟩
      have bP : P ≠ bp := (ne_of_none (sA _ _ gb) nP).symm
      have bE : bp ≠ E1 := ne_of_none ((sA.trans (sP.trans (sC.trans sD))) _ _ gb) nE
      have PE' : P ≠ E1 := ne_of_none ((sC.trans sD) _ _ gP) nE
      have hrun : runL [Rw.st] 0 (0, bs) = [] ++ [(0, bs)] := rfl
      refine k T P bp E1 m [.st] bs ([] ++ [(0, bs)]) H6 nPH nb nEH bP bE PE' gT ⟨⟨_, s26 _ _ gP, .cons ⟨A, rfl, s16 _ _ gA⟩ .nil⟩, s06 _ _ gb, ⟨_, sT _ _ gE, .cons ⟨D, C, rfl, (sE.trans sT) _ _ gD, (sD.trans (sE.trans sT)) _ _ gC⟩ .nil⟩⟩ ⟨hg, hl, hc, StopsR.of hrun rfl, by show 1 ≤ M + 1; omega⟩ (Kp.trans hk (Kp.of s06)) (hb.sm s06)
/-! ### is_whole -/
theorem ok_f_is_whole {f : Addr} {fd : FuncData} (F : Fun K "is_whole" "is_whole" s_f_is_whole f fd)
    (m_isinstance : mg "isinstance" = none)
    (m_int : mg "int" = none)
    (m_bool : mg "bool" = none) :
    FnG P w K mg base CX0 1 f fd ["thing"] (sp_f_is_whole K) := by
  refine okG F sc_f_is_whole (fun vs H Q E h => ?_) (fun cdv A outer s H vs Q E hr h => ⟨_, (pss_one (ps_ret (pe_and (pe_callB (call_gIsi (K := K) rfl) (by rfl) m_isinstance PyProof.Rows.boot_isinstance (pa_cons (pv 0) (pa_cons (pe_bltn (v := .ty "int") (by rfl) m_int PyProof.Rows.boot_int rfl) pa_nil))) (pe_one (pe_not (pe_callB (call_gIsi (K := K) rfl) (by rfl) m_isinstance PyProof.Rows.boot_isinstance (pa_cons (pv 0) (pa_cons (pe_bltn (v := .ty "bool") (by rfl) m_bool PyProof.Rows.boot_bool rfl) pa_nil)))))))), ?_⟩)
  · obtain ⟨_, rfl, _⟩ := h
    rfl
  · obtain ⟨i, rfl, k⟩ := h
    try dsimp only [cxOf, Cx.nox, Cx.wish]
    change (_ : L2.TS) _ [some (.int i)] _
    refine w_start ?_
    repeat' (tm_at "rs")
    exact k _ (Same.refl _)
/-! ### is_formed -/
theorem ok_f_is_formed {f : Addr} {fd : FuncData} (F : Fun K "is_formed" "is_formed" s_f_is_formed f fd) {a_SHAPES : Addr}
    (D_f_is_whole : Def P w K mg base CX0 "is_whole" 1 ["thing"] (sp_f_is_whole K))
    (m_all : mg "all" = none)
    (m_len : mg "len" = none)
    (c_SHAPES : mg "SHAPES" = some (.ref a_SHAPES))
    (d_SHAPES : KDt K w a_SHAPES [(Str.ofString "raise", [Str.ofString "box"]), (Str.ofString "lower", [Str.ofString "box"]), (Str.ofString "if", [Str.ofString "box", Str.ofString "goal"]), (Str.ofString "go", [Str.ofString "goal"]), (Str.ofString "stop", [])]) :
    FnG P w K mg base CX0 2 f fd ["row"] (sp_f_is_formed K) := by
  refine okG F sc_f_is_formed (fun vs H Q E h => ?_) (fun cdv A outer s H vs Q E hr h => ⟨_, (pss_cons (ps_if (PW.pt (pw_or (pt_cmpR (op_gEq (K := K) rfl hr.units) (pe_callB (call_gLen (K := K) rfl) (by rfl) m_len PySem.boot_len (pa_cons (pv 0) pa_nil)) pe_int (nomark _)) (pw_or (pt_cmp (pc_niK (pe_ix (ix_g (K := K) rfl) (pv 0) pe_int (fun _ _ => rfl)) (pe_glob (v := .ref a_SHAPES) rfl c_SHAPES rfl))) (pw_or1 (pt_cmpR (op_gNe (K := K) rfl hr.units) (pe_callB (call_gLen (K := K) rfl) (by rfl) m_len PySem.boot_len (pa_cons (pv 0) pa_nil)) (pe_op (op_gAdd (K := K) rfl) pe_int (pe_callB (call_gLen (K := K) rfl) (by rfl) m_len PySem.boot_len (pa_cons (pe_kget (pe_glob (v := .ref a_SHAPES) rfl c_SHAPES rfl) (pe_ix (ix_g (K := K) rfl) (pv 0) pe_int (fun _ _ => rfl)) (fun _ _ => rfl)) pa_nil))) (nomark _)))))) (pss_one (ps_ret pe_bl)) pss_nil)
    (pss_one (ps_ret (pe_callB (cr_all rfl) (by rfl) m_all (by decide +kernel) (pa_cons (pe_lc (own := _) rfl sc_f_is_formed.nd (pi_gt (K := K) rfl (pe_slice (sl_gl (K := K) rfl) (pv 0) (po_some pe_int) po_none)) (blkOk_by (own := [("thing", 1)]) (N := ["row", "thing"]) (sc := defScope s_f_is_formed) (by decide +kernel)) (fun _ _ _ _ _ => (pg_name (i := 1) sc_f_is_formed.nd rfl (by first | exact Or.inl rfl | exact Or.inr rfl))) (fun _ _ _ _ _ => pts_nil) (fun _ _ _ _ _ => (pe_f D_f_is_whole (hr.mono (by omega)) (by rfl) pass0 (pa_cons (pv 1) pa_nil)))) pa_nil))))), ?_⟩)
  · obtain ⟨_, _, rfl, _⟩ := h
    rfl
  · obtain ⟨p, r, rfl, hp, k⟩ := h
    try dsimp only [cxOf, Cx.nox, Cx.wish]
    change (_ : L2.TS) _ [some (.ref p), none] _
    refine w_start ?_
    have hl : r.vs.length = 1 + (r.vs.drop 1).length := by cases r <;> rfl
    have hl2 : (r.vs.length : Int) ≠ 0 := by omega
    have hl3 : (r.vs.length : Int) = 1 + ((r.kinds.map V.str).length : Nat) := by cases r <;> rfl
    obtain ⟨zs, hz⟩ := r.vs_word
    have h0 : r.vs[0]? = some (.str r.word) := by rw [hz]; rfl
    repeat' (tm_at "rs")
    · rename_i e
      exact absurd e hl2
    refine w_ixT (st_of hp) (atI_nat (j := 0) h0) ?_
    repeat' (tm_at "rs")
    refine w_nieT d_SHAPES (Rw.shp r) ?_
    repeat' (tm_at "rs")
    refine w_ixT (st_of hp) (atI_nat (j := 0) h0) ?_
    repeat' (tm_at "rs")
    refine w_kge d_SHAPES (Rw.shp r) (fun t ht => ?_)
    repeat' (tm_at "rs")
    · rename_i e
      exact absurd hl3 e
    rename_i e1 e2 q H1 s1 g1
    rw [cut_lo (by decide)] at g1
    have hti := r.tail_int
    have hxl : (r.vs.drop (1 : Int).toNat).length ≤ 10 := by cases r <;> exact Nat.le_of_ble_eq_true rfl
    refine lcTp (xs := r.vs.drop (1 : Int).toNat) (fun D i H' => H' D = some (.lst ((List.replicate i true).map V.bl)) ∧ Sm H1 H') ?_ ?_ ?_ ?_
    · exact fun D H' nD sm hD => ⟨hD, sm⟩
    · exact fun D i H' nD hi h => st_of (h.2 _ _ g1)
    · rintro D i x H' nD hx ⟨hD, hs⟩
      obtain ⟨n, rfl⟩ := hti x (List.mem_of_getElem? hx)
      have hi := (List.getElem?_eq_some_iff.mp hx).1
      have hil : ((List.replicate i true).map V.bl).length ≤ 100 := by rw [List.length_map, List.length_replicate]; omega
      repeat' (tm_at "rs")
      rename_i H2 s2 H3 k3 g3
      exact ⟨by rw [List.replicate_succ', List.map_append]; exact g3, by tm_at "rsm"⟩
    · rintro D H' nD ⟨hD, hs⟩
      repeat' (tm_at "rs")
      rw [show (List.replicate (r.vs.drop (1 : Int).toNat).length true).all id = true by simp]
      exact k _ (by tm_at "rsm")
/-! ### check_row -/
theorem ok_f_check_row {f : Addr} {fd : FuncData} (F : Fun K "check_row" "check_row" s_f_check_row f fd) {a_SHAPES : Addr}
    (D_f_is_formed : Def P w K mg base CX0 "is_formed" 2 ["row"] (sp_f_is_formed K))
    (m_zip : mg "zip" = none)
    (m_int : mg "int" = none)
    (c_SHAPES : mg "SHAPES" = some (.ref a_SHAPES))
    (d_SHAPES : KDt K w a_SHAPES [(Str.ofString "raise", [Str.ofString "box"]), (Str.ofString "lower", [Str.ofString "box"]), (Str.ofString "if", [Str.ofString "box", Str.ofString "goal"]), (Str.ofString "go", [Str.ofString "goal"]), (Str.ofString "stop", [])]) :
    FnG P w K mg base CX0 3 f fd ["row", "boxes", "many", "at"] (sp_f_check_row K) := by
  refine okG F sc_f_check_row (fun vs H Q E h => ?_) (fun cdv A outer s H vs Q E hr h => ⟨_, (pss_cons (ps_if (pt_not (pt_val (pe_f D_f_is_formed (hr.mono (by omega)) (by rfl) pass0 (pa_cons (pv 0) pa_nil)))) (pss_one ps_never) pss_nil)
    (pss_one (ps_for PassesOwn.never rfl (pi_zipS (by rfl) m_zip (pa_cons (pe_kget (pe_glob (v := .ref a_SHAPES) rfl c_SHAPES rfl) (pe_ix (ix_g (K := K) rfl) (pv 0) pe_int (fun _ _ => rfl)) (fun _ _ => rfl)) (pa_cons (pe_slice (sl_gl (K := K) rfl) (pv 0) (po_some pe_int) po_none) pa_nil)) (pk_cons pe_bl pk_nil)) (pg_gt (K := K) (n := 2) rfl rfl (pgs_cons (pg_name (i := 4) sc_f_check_row.nd rfl (by first | exact Or.inl rfl | exact Or.inr rfl)) (pgs_cons (pg_name (i := 5) sc_f_check_row.nd rfl (by first | exact Or.inl rfl | exact Or.inr rfl)) pgs_nil))) (pss_one (ps_if (pt_not (pt_chain op_gLe op_gLt pe_int (pv 5) (pe_ix (ix_g (K := K) rfl) (pe_lst (pa_cons (pv 1) (pa_cons (pv 2) pa_nil))) (pe_callTy call_gInt (by rfl) m_int PyProof.Rows.boot_int (pa_cons (pe_cmpR (op_gEq (K := K) rfl hr.units) (pv 4) pe_str (nomark _)) pa_nil)) (fun _ _ => rfl)))) (pss_one ps_never) pss_nil))))), ?_⟩)
  · obtain ⟨_, _, _, _, _, rfl, _⟩ := h
    rfl
  · obtain ⟨p, r, m, n, t, rfl, hp, ho, k⟩ := h
    try dsimp only [cxOf, Cx.nox, Cx.wish]
    change (_ : L2.TS) _ [some (.ref p), some (.int (m : Nat)), some (.int (n : Nat)), some (.int (t : Nat)), none, none] _
    refine w_start ?_
    obtain ⟨zs, hz⟩ := r.vs_word
    have h0 : r.vs[0]? = some (.str r.word) := by rw [hz]; rfl
    repeat' (tm_at "rs")
    refine call_isFormed hp (fun H1 s1 => ?_)
    have hp1 := s1 _ _ hp
    repeat' (tm_at "rs")
    refine w_ixT (st_of hp1) (atI_nat (j := 0) h0) ?_
    repeat' (tm_at "rs")
    refine w_kgA d_SHAPES (Rw.shp r) (fun t2 ht => ?_)
    repeat' (tm_at "rs")
    rename_i q H2 s2 g2
    rw [cut_lo (by decide)] at g2
    refine w_iZSe (ht _) (st_of g2) ?_
    have el : (r.kinds.map V.str).length = (r.vs.drop (1 : Int).toNat).length := by cases r <;> rfl
    refine loopZS el (fun i σ' H' => ∃ (x4 x5 : Option V), σ' = [some (.ref p), some (.int (m : Nat)), some (.int (n : Nat)), some (.int (t : Nat)), x4, x5] ∧ Sm H2 H') ⟨_, _, rfl, Same.refl _⟩ ?_ ?_ ?_
    · rintro i σ' H' hi ⟨x4, x5, rfl, hs⟩
      exact ⟨ht _, st_of (hs _ _ g2)⟩
    · rintro i x y T σ' Ha Hb hi hx hy ⟨x4, x5, rfl, hs⟩ nT sT gT
      obtain ⟨ks, nn, rfl, rfl, hok⟩ : ∃ (ks : Str) (nn : Nat), x = .str ks ∧ y = .int (nn : Nat) ∧ ((ks = "goal" ∧ nn < n) ∨ (ks ≠ "goal" ∧ nn < m)) := by
        cases r
        all_goals
          rcases i with _ | _ | i
        all_goals first
          | (exfalso; cases hx; done)
          | (cases hx; cases hy; first | exact ⟨_, _, rfl, rfl, .inr ⟨by decide, ho⟩⟩ | exact ⟨_, _, rfl, rfl, .inl ⟨rfl, ho⟩⟩ | exact ⟨_, _, rfl, rfl, .inr ⟨by decide, ho.1⟩⟩ | exact ⟨_, _, rfl, rfl, .inl ⟨rfl, ho.2⟩⟩)
      repeat' (tm_at "rs")
      all_goals first
        | exact ⟨_, _, rfl, by tm_at "rsm"⟩
        | (exfalso; rcases hok with ⟨h3, h4⟩ | ⟨h3, h4⟩ <;> first | omega | (apply h3; assumption) | (rename_i h1 h2; exact h1 h3))
        | (exfalso; omega)
    · rintro σ' H' ⟨x4, x5, rfl, hs⟩
      repeat' (tm_at "rs")
      exact k _ (by tm_at "rsm")
/-! ### check -/
theorem ok_f_check {f : Addr} {fd : FuncData} (F : Fun K "check" "check" s_f_check f fd) {t_MOST_BOXES : Tok} {t_MOST_ROWS : Tok}
    (D_f_check_row : Def P w K mg base CX0 "check_row" 3 ["row", "boxes", "many", "at"] (sp_f_check_row K))
    (m_enumerate : mg "enumerate" = none)
    (m_len : mg "len" = none)
    (c_MOST_BOXES : mg "MOST_BOXES" = some (.int 5 t_MOST_BOXES))
    (c_MOST_ROWS : mg "MOST_ROWS" = some (.int 14 t_MOST_ROWS)) :
    FnG P w K mg base CX0 4 f fd ["boxes", "rows"] (sp_f_check K) := by
  refine okG F sc_f_check (fun vs H Q E h => ?_) (fun cdv A outer s H vs Q E hr h => ⟨_, (pss_cons (ps_if (pt_not (pt_chain op_gLe op_gLe pe_int (pv 0) (pe_glob (v := .int 5) rfl c_MOST_BOXES ⟨_, rfl⟩))) (pss_one ps_never) pss_nil)
    (pss_cons (ps_if (pt_not (pt_chain op_gLe op_gLe pe_int (pe_callB (call_gLen (K := K) rfl) (by rfl) m_len PySem.boot_len (pa_cons (pv 1) pa_nil)) (pe_glob (v := .int 14) rfl c_MOST_ROWS ⟨_, rfl⟩))) (pss_one ps_never) pss_nil)
    (pss_cons (ps_for PassesOwn.never rfl (pi_or (pi_enum (by rfl) m_enumerate (pa_cons (pv 1) pa_nil)) (pi_enT (by rfl) m_enumerate (pa_cons (pv 1) pa_nil))) (pg_gt (K := K) (n := 2) rfl rfl (pgs_cons (pg_name (i := 2) sc_f_check.nd rfl (by first | exact Or.inl rfl | exact Or.inr rfl)) (pgs_cons (pg_name (i := 3) sc_f_check.nd rfl (by first | exact Or.inl rfl | exact Or.inr rfl)) pgs_nil))) (pss_one (ps_expr (pe_f D_f_check_row (hr.mono (by omega)) (by rfl) pass0 (pa_cons (pv 3) (pa_cons (pv 0) (pa_cons (pe_callB (call_gLen (K := K) rfl) (by rfl) m_len PySem.boot_len (pa_cons (pv 1) pa_nil)) (pa_cons (pv 2) pa_nil))))))))
    (pss_one (ps_if (pt_cmpR (op_gNotInSeq (K := K) rfl) (pe_ix (ix_g (K := K) rfl) (pe_ix (ix_g (K := K) rfl) (pv 1) (pe_un un_neg pe_int) (fun _ _ => rfl)) pe_int (fun _ _ => rfl)) (pe_tup (pa_cons pe_str (pa_cons pe_str pa_nil))) (by rfl)) (pss_one ps_never) pss_nil))))), ?_⟩)
  · obtain ⟨_, _, _, _, rfl, _⟩ := h
    rfl
  · obtain ⟨m, a, us, rs, rfl, ha, hr, hp, k⟩ := h
    try dsimp only [cxOf, Cx.nox, Cx.wish]
    change (_ : L2.TS) _ [some (.int (m : Nat)), some (.ref a), none, none] _
    refine w_start ?_
    have hl := paired_len hr
    obtain ⟨b1, b5, ok, len, us0, r0, hfin, hend⟩ := id hp
    have hpos := hp.pos
    rcases ha with ha | ha
    · repeat' (tm_at "rs")
      · omega
      · omega
      · refine .inl ?_
        repeat' (tm_at "rs")
        refine loopEn (xs := us) (fun i σ' H' => ∃ (x2 x3 : Option V), σ' = [some (.int (m : Nat)), some (.ref a), x2, x3] ∧ Sm H H') ⟨_, _, rfl, Same.refl _⟩ ?_ ?_ ?_
        · rintro i σ' H' hi ⟨x2, x3, rfl, hs⟩
          exact sq_of (hs _ _ ha)
        · rintro i x T σ' H1 H2 hi hx ⟨x2, x3, rfl, hs⟩ nT sT gT
          obtain ⟨r, hr1, p, rfl, hpr⟩ := paired_get hr hx
          have hpr2 := sT _ _ (hs _ _ hpr)
          repeat' (tm_at "rs")
          refine call_checkRow hpr2 (by rw [hl]; exact ok r (List.mem_of_getElem? hr1)) (fun H3 s3 => ?_)
          repeat' (tm_at "rs")
          exact ⟨_, _, rfl, by tm_at "rsm"⟩
        · rintro σ' H1 ⟨x2, x3, rfl, hs⟩
          have hr1 := hr.tk (Tk.sm hs)
          rw [hfin] at hr1
          obtain ⟨us1, x, e, hr2, p, rfl, hpr⟩ := paired_last hr1
          have ha1 := hs _ _ ha
          rw [e] at ha1
          obtain ⟨zs, hz⟩ := r0.vs_word
          repeat' (tm_at "rs")
          refine w_ixL' (sq_of ha1) (atI_last _ _) ?_
          repeat' (tm_at "rs")
          refine w_ixT (st_of hpr) (atI_nat (j := 0) (by rw [hz]; rfl)) ?_
          repeat' (tm_at "rs")
          · rename_i hh
            exfalso
            apply hh
            cases r0 <;> first | exact hend.elim | exact .inl rfl | exact .inr rfl
          · exact k _ (by tm_at "rsm")
      · omega
      · omega
    · repeat' (tm_at "rs")
      · omega
      · omega
      · refine .inr ?_
        repeat' (tm_at "rs")
        refine loopEt (xs := us) (fun i σ' H' => ∃ (x2 x3 : Option V), σ' = [some (.int (m : Nat)), some (.ref a), x2, x3] ∧ Sm H H') ⟨_, _, rfl, Same.refl _⟩ ?_ ?_ ?_
        · rintro i σ' H' hi ⟨x2, x3, rfl, hs⟩
          exact st_of (hs _ _ ha)
        · rintro i x T σ' H1 H2 hi hx ⟨x2, x3, rfl, hs⟩ nT sT gT
          obtain ⟨r, hr1, p, rfl, hpr⟩ := paired_get hr hx
          have hpr2 := sT _ _ (hs _ _ hpr)
          repeat' (tm_at "rs")
          refine call_checkRow hpr2 (by rw [hl]; exact ok r (List.mem_of_getElem? hr1)) (fun H3 s3 => ?_)
          repeat' (tm_at "rs")
          exact ⟨_, _, rfl, by tm_at "rsm"⟩
        · rintro σ' H1 ⟨x2, x3, rfl, hs⟩
          have hr1 := hr.tk (Tk.sm hs)
          rw [hfin] at hr1
          obtain ⟨us1, x, e, hr2, p, rfl, hpr⟩ := paired_last hr1
          have ha1 := hs _ _ ha
          rw [e] at ha1
          obtain ⟨zs, hz⟩ := r0.vs_word
          repeat' (tm_at "rs")
          refine w_ixT (st_of ha1) (atI_last _ _) ?_
          repeat' (tm_at "rs")
          refine w_ixT (st_of hpr) (atI_nat (j := 0) (by rw [hz]; rfl)) ?_
          repeat' (tm_at "rs")
          · rename_i hh
            exfalso
            apply hh
            cases r0 <;> first | exact hend.elim | exact .inl rfl | exact .inr rfl
          · exact k _ (by tm_at "rsm")
      · omega
      · omega
/-! ### Program.__init__ -/
theorem ok_f_Program__init {f : Addr} {fd : FuncData} (F : Fun K "__init__" "Program.__init__" s_f_Program__init f fd)
    (D_f_check : Def P w K mg base CX0 "check" 4 ["boxes", "rows"] (sp_f_check K))
    (m_tuple : mg "tuple" = none) :
    FnG P w K mg base CX0 5 f fd ["self", "boxes", "rows"] (sp_f_Program__init K) := by
  refine okG F sc_f_Program__init (fun vs H Q E h => ?_) (fun cdv A outer s H vs Q E hr h => ⟨_, (pss_cons (ps_expr (pe_f D_f_check (hr.mono (by omega)) (by rfl) pass0 (pa_cons (pv 1) (pa_cons (pv 2) pa_nil))))
    (pss_cons (ps_fld (pv 0) (pv 1) rfl)
    (pss_one (ps_fld (pv 0) (pe_callTy (call_gTuple (K := K) rfl) (by rfl) m_tuple PyProof.Rows.boot_tuple (pa_cons (pv 2) pa_nil)) rfl)))), ?_⟩)
  · obtain ⟨_, _, _, _, _, _, _, rfl, _⟩ := h
    rfl
  · obtain ⟨p, C, dx, m, a, us, rs, rfl, hp, hC, ha, hr, hg, k⟩ := h
    try dsimp only [cxOf, Cx.nox, Cx.wish]
    change (_ : L2.TS) _ [some (.ref p), some (.int (m : Nat)), some (.ref a)] _
    refine w_start ?_
    rcases ha with ha | ha
    · repeat' (tm_at "rs")
      refine call_check ha hr hg (fun H1 s1 => ?_)
      have hp1 := s1 _ _ hp
      have ha1 := s1 _ _ ha
      repeat' (tm_at "rs")
      refine w_sfldE hp1 hC.cl (hC.na _ (by simp)) (by show 0 < 1000; decide) (fun H2 k2 g2 => ?_)
      have ha2 : H2 a = some (.lst us) := k2 _ _ (ne_of ha1 hp1 (by intro z; cases z)) ha1
      repeat' (tm_at "rs")
      rename_i t H3 nt st gt
      refine w_sfldE (st _ _ g2) hC.cl (hC.na _ (by simp)) (by show 1 < 1000; decide) (fun H4 k4 g4 => ?_)
      repeat' (tm_at "rs")
      refine k _ t (Kp.trans (Kp.of s1) (Kp.trans k2 (Kp.trans (Kp.of st) k4))) g4 (k4 _ _ ?_ gt)
      exact ne_of gt (st _ _ g2) (by intro z; cases z)
    · repeat' (tm_at "rs")
      refine call_checkT ha hr hg (fun H1 s1 => ?_)
      have hp1 := s1 _ _ hp
      have ha1 := s1 _ _ ha
      repeat' (tm_at "rs")
      refine w_sfldE hp1 hC.cl (hC.na _ (by simp)) (by show 0 < 1000; decide) (fun H2 k2 g2 => ?_)
      have ha2 : H2 a = some (.tup us) := k2 _ _ (ne_of ha1 hp1 (by intro z; cases z)) ha1
      repeat' (tm_at "rs")
      refine ⟨a, us, rfl, .inr ⟨st_of ha2, ?_⟩⟩
      repeat' (tm_at "rs")
      refine w_sfldE g2 hC.cl (hC.na _ (by simp)) (by show 1 < 1000; decide) (fun H4 k4 g4 => ?_)
      repeat' (tm_at "rs")
      refine k _ a (Kp.trans (Kp.of s1) (Kp.trans k2 k4)) g4 (k4 _ _ ?_ ha2)
      exact ne_of ha2 g2 (by intro z; cases z)
/-! ### Program.__len__ -/
theorem ok_f_Program__len {f : Addr} {fd : FuncData} (F : Fun K "__len__" "Program.__len__" s_f_Program__len f fd)
    (m_len : mg "len" = none) :
    FnG P w K mg base CX0 1 f fd ["self"] (sp_f_Program__len K) := by
  refine okG F sc_f_Program__len (fun vs H Q E h => ?_) (fun cdv A outer s H vs Q E hr h => ⟨_, (pss_one (ps_ret (pe_callB (call_gLen (K := K) rfl) (by rfl) m_len PySem.boot_len (pa_cons (pe_fld (pv 0) rfl) pa_nil)))), ?_⟩)
  · obtain ⟨_, _, _, rfl, _⟩ := h
    rfl
  · obtain ⟨v, m, rs, rfl, hv, k⟩ := h
    try dsimp only [cxOf, Cx.nox, Cx.wish]
    change (_ : L2.TS) _ [some (v)] _
    refine w_start ?_
    repeat' (tm_at "rs")
    rename_i t us hT hR
    have hul : us.length = rs.length := paired_len hR
    rw [← hul] at k
    repeat' (tm_at "rs")
    exact k
/-! ### c_for -/
theorem ok_f_c_for {f : Addr} {fd : FuncData} (F : Fun K "c_for" "c_for" s_f_c_for f fd) {C_Program : Addr}
    (M_Program_len : DefO P w K mg base CX0 C_Program "__len__" 1 ["self"] (sp_f_Program__len K))
    (SC_Program : ClsN K "Program" C_Program ["boxes", "rows"])
    (OC_Program : ClsO K C_Program)
    (m_max : mg "max" = none)
    (m_len : mg "len" = none)
    (m_sum : mg "sum" = none) :
    FnG P w K mg base CX0 3 f fd ["program", "stands"] (sp_f_c_for K) := by
  refine okG F sc_f_c_for (fun vs H Q E h => ?_) (fun cdv A outer s H vs Q E hr h => ⟨_, (pss_cons (ps_set (i := 2) sc_f_c_for.nd rfl (by first | exact Or.inl rfl | exact Or.inr rfl) (pe_callB (cr_mxN (K := K) rfl rfl hr.units) (by rfl) m_max (by decide +kernel) (pa_cons (pe_op (op_gAdd (K := K) rfl) (pe_lst (pa_cons (pe_callB (cr_smN (K := K) rfl rfl) (by rfl) m_sum (by decide +kernel) (pa_cons (pe_ix (ix_g (K := K) rfl) (pe_ix (ix_g (K := K) rfl) (pv 1) pe_int (fun _ _ => rfl)) pe_int (fun _ _ => rfl)) pa_nil)) pa_nil)) (pe_lc (own := _) rfl sc_f_c_for.nd (pi_gl (K := K) rfl (pv 1)) (blkOk_by (own := [("k", 3), ("contents", 4)]) (N := ["program", "stands", "greatest", "k", "contents", "c", "half"]) (sc := defScope s_f_c_for) (by decide +kernel)) (fun _ _ _ _ _ => (pg_gt (K := K) (n := 2) rfl rfl (pgs_cons (pg_name (i := 3) sc_f_c_for.nd rfl (by first | exact Or.inl rfl | exact Or.inr rfl)) (pgs_cons (pg_name (i := 4) sc_f_c_for.nd rfl (by first | exact Or.inl rfl | exact Or.inr rfl)) pgs_nil)))) (fun _ _ _ _ _ => pts_nil) (fun _ _ _ _ _ => (pe_callB (cr_mxN (K := K) rfl rfl hr.units) (by rfl) m_max (by decide +kernel) (pa_cons (pv 4) pa_nil))))) pa_nil)))
    (pss_cons (ps_set (i := 5) sc_f_c_for.nd rfl (by first | exact Or.inl rfl | exact Or.inr rfl) pe_int)
    (pss_cons (ps_set (i := 6) sc_f_c_for.nd rfl (by first | exact Or.inl rfl | exact Or.inr rfl) pe_int)
    (pss_cons (ps_while PassesOwn.never (PW.pt (pw_or (pt_cmpR op_gLe (pv 6) (pv 2) (nomark _)) (pw_or1 (pt_cmpR op_gLe (pe_op op_gMul (pv 6) pe_int) (pe_callB (cr_lenO M_Program_len (hr.mono (by omega)) pass0) (by rfl) m_len PySem.boot_len (pa_cons (pv 0) pa_nil)) (nomark _))))) (pss_cons (ps_aug (i := 6) sc_f_c_for.nd rfl (by first | exact Or.inl rfl | exact Or.inr rfl) pe_int ip_gShl)
    (pss_one (ps_aug (i := 5) sc_f_c_for.nd rfl (by first | exact Or.inl rfl | exact Or.inr rfl) pe_int ip_gAdd))))
    (pss_one (ps_ret (pv 5))))))), ?_⟩)
  · obtain ⟨_, _, _, _, _, _, _, rfl, _⟩ := h
    rfl
  · obtain ⟨v, p, m, M, rs, xs, ss, rfl, hv, hl, hp, hx, hne, hsl, hb, k⟩ := h
    try dsimp only [cxOf, Cx.nox, Cx.wish]
    change (_ : L2.TS) _ [some (v), some (.ref p), none, none, none, none, none] _
    refine w_start ?_
    have hxl : xs.length = ss.length := paired_len hx
    match ss, hne, xs, hx with
    | s0 :: ss, _, _ :: xs, .cons h0 hx =>
    obtain ⟨p0, t0, rfl, g0, gt0⟩ := id h0
    repeat' (tm_at "rs")
    refine w_smT (st_of gt0) ?_
    repeat' (tm_at "rs")
    rename_i S H1 nS s1 gS
    have hp1 := s1 _ _ hp
    have hxA : SdL H1 (V.ref p0 :: xs) (s0 :: ss) := SdL.tk (.cons h0 hx) (Tk.sm s1)
    have hv1 := hv.sm s1
    refine lcLs (xs := V.ref p0 :: xs) (fun D i H' => H' D = some (.lst (nV (((s0 :: ss).take i).map fun s => mxN s.2))) ∧ Sm H1 H') ?_ ?_ ?_ ?_
    · exact fun D H' nD sm hD => ⟨hD, sm⟩
    · exact fun D i H' nD hi h => sq_of (h.2 _ _ hp1)
    · rintro D i x H' nD hi ⟨hD, sm⟩
      obtain ⟨s, hs, q, t, rfl, gq, gt⟩ := paired_get hxA hi
      have gq' := sm _ _ gq
      have gt' := sm _ _ gt
      have hsm := List.mem_of_getElem? hs
      have htk : (s0 :: ss).take (i + 1) = (s0 :: ss).take i ++ [s] := by rw [List.take_succ, hs]; rfl
      have hil := (List.getElem?_eq_some_iff.mp hs).1
      have hll : (nV (((s0 :: ss).take i).map fun s => mxN s.2)).length ≤ 1000 := by
        rw [nV_len, List.length_map, List.length_take]
        omega
      repeat' (tm_at "rs")
      refine w_mxT (st_of gt') (hb s hsm).1 ?_
      repeat' (tm_at "rs")
      rename_i H2 k2 g2
      refine ⟨?_, by tm_at "rsm"⟩
      rw [htk, List.map_append, nV_app]
      exact g2
    · rintro D H2 nD ⟨hD, sm⟩
      rw [hxl, List.take_length] at hD
      have gS2 := sm _ _ gS
      have hDl : (nV ((s0 :: ss).map fun s => mxN s.2)).length ≤ 1000 := by
        rw [nV_len, List.length_map]
        omega
      repeat' (tm_at "rs")
      rename_i L H3 nL s3 gL
      have gL' : H3 L = some (.lst (nV (smN s0.2 :: (s0 :: ss).map fun s => mxN s.2))) := gL
      refine w_mxL (sq_of gL') (by simp) ?_
      have hG : mxN (smN s0.2 :: (s0 :: ss).map fun s => mxN s.2) = grt (s0 :: ss) := rfl
      rw [hG]
      have hGb := grt_bd hb (by decide)
      obtain ⟨G, hGe⟩ : ∃ G, G = grt (s0 :: ss) := ⟨_, rfl⟩
      rw [← hGe] at hGb
      rw [← hGe] at k ⊢
      have hv3 := hv1.sm (sm.trans s3)
      have s03 : Sm H H3 := s1.trans (sm.trans s3)
      clear gL gL' hD gS2 hDl hG
      have cb : cL G rs.length ≤ 40 := by
        have b1 := btsN_le (x := G) (k := 20) (by omega)
        have b2 := btsN_le (x := rs.length) (k := 20) (by omega)
        unfold cL
        omega
      repeat' (tm_at "rs")
      refine w_while (fun n σ' H' => ∃ (c : Nat) (x3 x4 : Option V), σ' = [some v, some (.ref p), some (.int (G : Nat)), x3, x4, some (.int (c : Nat)), some (.int ((2 ^ (c - 1) : Nat) : Int))] ∧ 1 ≤ c ∧ c + n = cL G rs.length ∧ Sm H3 H') (cL G rs.length - 1) ⟨1, _, _, rfl, Nat.le_refl _, by have := cL_pos (G := G) (n := rs.length); omega, Same.refl _⟩ ?_
      rintro n σ' H' ⟨c, x3, x4, rfl, c1, hc, sm2⟩
      have hb40 : 2 ^ (c - 1) ≤ 2 ^ 40 := Nat.pow_le_pow_right (by decide) (by omega)
      have hp40 : (2 : Nat) ^ 40 = 1099511627776 := by decide
      have h2c : 2 ^ c = 2 ^ (c - 1) * 2 := by rw [← Nat.pow_succ]; congr 1; omega
      have clt := cL_lt (G := G) (n := rs.length) c1
      obtain ⟨h, hh⟩ : ∃ h, h = 2 ^ (c - 1) := ⟨_, rfl⟩
      rw [← hh] at hb40 h2c clt ⊢
      have hsh : CShl ((h : Nat) : Int) 1 := by
        refine ⟨by decide, ?_⟩
        have : Builtin.Int.intBits ((h : Nat) : Int) ≤ 41 := intBits_le (by rw [Int.natAbs_natCast]; exact Nat.lt_of_le_of_lt hb40 (by decide))
        omega
      have hv4 := hv3.sm sm2
      repeat' (tm_at "rs")
      · rename_i e
        have : c < cL G rs.length := clt.mp (.inl (by omega))
        have e2 : ((h : Nat) : Int) * 2 ^ Int.toNat 1 = ((2 ^ (c + 1 - 1) : Nat) : Int) := by
          rw [Nat.add_sub_cancel, h2c]
          show ((h : Nat) : Int) * 2 = _
          omega
        rw [e2]
        exact ⟨n - 1, by omega, c + 1, _, _, rfl, by omega, by omega, sm2⟩
      · rename_i e e1
        have : c < cL G rs.length := clt.mp (.inr (by omega))
        have e2 : ((h : Nat) : Int) * 2 ^ Int.toNat 1 = ((2 ^ (c + 1 - 1) : Nat) : Int) := by
          rw [Nat.add_sub_cancel, h2c]
          show ((h : Nat) : Int) * 2 = _
          omega
        rw [e2]
        exact ⟨n - 1, by omega, c + 1, _, _, rfl, by omega, by omega, sm2⟩
      · rename_i e e1
        have : ¬ c < cL G rs.length := fun q => by
          rcases clt.mpr q with q | q <;> omega
        have ecc : cL G rs.length = c := by omega
        rw [ecc] at k
        exact k _ (s03.trans sm2)
/-! ### with_more -/
theorem ok_f_with_more {f : Addr} {fd : FuncData} (F : Fun K "with_more" "with_more" s_f_with_more f fd) :
    FnG P w K mg base CX0 1 f fd ["contents", "j", "more"] (sp_f_with_more K) := by
  refine okG F sc_f_with_more (fun vs H Q E h => ?_) (fun cdv A outer s H vs Q E hr h => ⟨_, (pss_one (ps_ret (pe_op (op_gAdd (K := K) rfl) (pe_op (op_gAdd (K := K) rfl) (pe_slice (sl_gl (K := K) rfl) (pv 0) po_none (po_some (pv 1))) (pe_tup (pa_cons (pe_op (op_gAdd (K := K) rfl) (pe_ix (ix_g (K := K) rfl) (pv 0) (pv 1) (fun _ _ => rfl)) (pv 2)) pa_nil))) (pe_slice (sl_gl (K := K) rfl) (pv 0) (po_some (pe_op (op_gAdd (K := K) rfl) (pv 1) pe_int)) po_none)))), ?_⟩)
  · obtain ⟨_, _, _, _, _, rfl, _⟩ := h
    rfl
  · obtain ⟨t, cs, j, d, c, rfl, ht, hj, hl, hc, k⟩ := h
    try dsimp only [cxOf, Cx.nox, Cx.wish]
    change (_ : L2.TS) _ [some (.ref t), some (.int (j : Nat)), some (.int d)] _
    refine w_start ?_
    have hcl := nV_len cs
    have hat := nV_at hj
    have hz1 := @cut_len (nV cs) none (some (j : Int))
    have hz2 := @cut_len (nV cs) (some ((j : Int) + 1)) none
    repeat' (tm_at "rs")
    rename_i p H' sp gp
    rw [set_cat hj hc] at gp
    exact k p _ (by tm_at "rsm") gp
/-! ### goal_of -/
theorem ok_f_goal_of {f : Addr} {fd : FuncData} (F : Fun K "goal_of" "goal_of" s_f_goal_of f fd) :
    FnG P w K mg base CX0 1 f fd ["program", "k"] (sp_f_goal_of K) := by
  refine okG F sc_f_goal_of (fun vs H Q E h => ?_) (fun cdv A outer s H vs Q E hr h => ⟨_, (pss_cons (ps_set (i := 2) sc_f_goal_of.nd rfl (by first | exact Or.inl rfl | exact Or.inr rfl) (pe_ix (ix_g (K := K) rfl) (pe_fld (pv 0) rfl) (pv 1) (fun _ _ => rfl)))
    (pss_cons (ps_if (pt_cmpR (op_gInSeq (K := K) rfl) (pe_ix (ix_g (K := K) rfl) (pv 2) pe_int (fun _ _ => rfl)) (pe_tup (pa_cons pe_str (pa_cons pe_str pa_nil))) (by rfl)) (pss_one (ps_ret (pe_ix (ix_g (K := K) rfl) (pv 2) (pe_un un_neg pe_int) (fun _ _ => rfl)))) pss_nil)
    (pss_one (ps_ret pe_non)))), ?_⟩)
  · obtain ⟨_, _, _, _, _, rfl, _⟩ := h
    rfl
  · obtain ⟨v, k, m, rs, r, rfl, hv, hk, kk⟩ := h
    try dsimp only [cxOf, Cx.nox, Cx.wish]
    change (_ : L2.TS) _ [some (v), some (.int (k : Nat)), none] _
    refine w_start ?_
    have e1 : r.word = Str.ofString "if" ∨ r.word = Str.ofString "go" → atI r.vs (-1) = some r.gv := by
      intro h
      cases r
      · exact absurd (show Str.ofString "raise" = Str.ofString "if" ∨ Str.ofString "raise" = Str.ofString "go" from h) (by decide +kernel)
      · exact absurd (show Str.ofString "lower" = Str.ofString "if" ∨ Str.ofString "lower" = Str.ofString "go" from h) (by decide +kernel)
      · rfl
      · rfl
      · exact absurd (show Str.ofString "stop" = Str.ofString "if" ∨ Str.ofString "stop" = Str.ofString "go" from h) (by decide +kernel)
    have e2 : ¬ (r.word = Str.ofString "if" ∨ r.word = Str.ofString "go") → r.gv = .non := by
      intro h
      cases r
      · rfl
      · rfl
      · exact absurd (Or.inl rfl) h
      · exact absurd (Or.inr rfl) h
      · rfl
    repeat' (tm_at "rs")
    rename_i t us ht hr p hp
    obtain ⟨zs, hz⟩ := r.vs_word
    have hz0 : r.vs[0]? = some (.str r.word) := by rw [hz]; rfl
    repeat' (tm_at "rs")
    refine w_ixT (st_of hp) (atI_nat (j := 0) hz0) ?_
    repeat' (tm_at "rs")
    · rename_i q H1 nq sq gq e
      refine w_ixT (st_of (sq _ _ hp)) (e1 e) ?_
      repeat' (tm_at "rs")
      exact kk _ sq
    · rename_i q H1 nq sq gq e
      rw [e2 e] at kk
      exact kk _ sq
/-! ### step_from -/
theorem ok_f_step_from {f : Addr} {fd : FuncData} (F : Fun K "step_from" "step_from" s_f_step_from f fd)
    (D_f_with_more : Def P w K mg base CX0 "with_more" 1 ["contents", "j", "more"] (sp_f_with_more K))
    (D_f_goal_of : Def P w K mg base CX0 "goal_of" 1 ["program", "k"] (sp_f_goal_of K))
    (m_int : mg "int" = none) :
    FnG P w K mg base CX0 2 f fd ["program", "stand"] (sp_f_step_from K) := by
  refine okG F sc_f_step_from (fun vs H Q E h => ?_) (fun cdv A outer s H vs Q E hr h => ⟨_, (pss_cons (ps_asg (pv 1) (pg_gt (K := K) (n := 2) rfl rfl (pgs_cons (pg_name (i := 2) sc_f_step_from.nd rfl (by first | exact Or.inl rfl | exact Or.inr rfl)) (pgs_cons (pg_name (i := 3) sc_f_step_from.nd rfl (by first | exact Or.inl rfl | exact Or.inr rfl)) pgs_nil))))
    (pss_cons (ps_set (i := 4) sc_f_step_from.nd rfl (by first | exact Or.inl rfl | exact Or.inr rfl) (pe_ix (ix_g (K := K) rfl) (pe_fld (pv 0) rfl) (pv 2) (fun _ _ => rfl)))
    (pss_cons (ps_if (pt_cmpR (op_gEq (K := K) rfl hr.units) (pe_ix (ix_g (K := K) rfl) (pv 4) pe_int (fun _ _ => rfl)) pe_str (nomark _)) (pss_one (ps_ret pe_non)) pss_nil)
    (pss_cons (ps_if (pt_cmpR (op_gEq (K := K) rfl hr.units) (pe_ix (ix_g (K := K) rfl) (pv 4) pe_int (fun _ _ => rfl)) pe_str (nomark _)) (pss_one (ps_ret (pe_tup (pa_cons (pe_f D_f_goal_of (hr.mono (by omega)) (by rfl) pass0 (pa_cons (pv 0) (pa_cons (pv 2) pa_nil))) (pa_cons (pv 3) pa_nil))))) pss_nil)
    (pss_cons (ps_set (i := 5) sc_f_step_from.nd rfl (by first | exact Or.inl rfl | exact Or.inr rfl) (pe_ix (ix_g (K := K) rfl) (pv 4) pe_int (fun _ _ => rfl)))
    (pss_cons (ps_if (pt_cmpR (op_gEq (K := K) rfl hr.units) (pe_ix (ix_g (K := K) rfl) (pv 4) pe_int (fun _ _ => rfl)) pe_str (nomark _)) (pss_one (ps_ret (pe_tup (pa_cons (pe_op (op_gAdd (K := K) rfl) (pv 2) pe_int) (pa_cons (pe_f D_f_with_more (hr.mono (by omega)) (by rfl) pass0 (pa_cons (pv 3) (pa_cons (pv 5) (pa_cons pe_int pa_nil)))) pa_nil))))) pss_nil)
    (pss_cons (ps_if (pt_cmpR (op_gEq (K := K) rfl hr.units) (pe_ix (ix_g (K := K) rfl) (pv 4) pe_int (fun _ _ => rfl)) pe_str (nomark _)) (pss_one (ps_ret (pe_tup (pa_cons (pe_ix (ix_g (K := K) rfl) (pe_lst (pa_cons (pe_op (op_gAdd (K := K) rfl) (pv 2) pe_int) (pa_cons (pe_f D_f_goal_of (hr.mono (by omega)) (by rfl) pass0 (pa_cons (pv 0) (pa_cons (pv 2) pa_nil))) pa_nil))) (pe_callTy call_gInt (by rfl) m_int PyProof.Rows.boot_int (pa_cons (pe_cmpR (op_gEq (K := K) rfl hr.units) (pe_ix (ix_g (K := K) rfl) (pv 3) (pv 5) (fun _ _ => rfl)) pe_int (nomark _)) pa_nil)) (fun _ _ => rfl)) (pa_cons (pv 3) pa_nil))))) pss_nil)
    (pss_cons (ps_if (pt_cmpR (op_gEq (K := K) rfl hr.units) (pe_ix (ix_g (K := K) rfl) (pv 3) (pv 5) (fun _ _ => rfl)) pe_int (nomark _)) (pss_one (ps_ret pe_non)) pss_nil)
    (pss_one (ps_ret (pe_tup (pa_cons (pe_op (op_gAdd (K := K) rfl) (pv 2) pe_int) (pa_cons (pe_f D_f_with_more (hr.mono (by omega)) (by rfl) pass0 (pa_cons (pv 3) (pa_cons (pv 5) (pa_cons (pe_un un_neg pe_int) pa_nil)))) pa_nil))))))))))))), ?_⟩)
  · obtain ⟨_, _, _, _, _, _, rfl, _⟩ := h
    rfl
  · obtain ⟨v, z, m, k, cs, rs, rfl, hv, hz, hg, hk, hc, kk⟩ := h
    try dsimp only [cxOf, Cx.nox, Cx.wish]
    change (_ : L2.TS) _ [some (v), some (z), none, none, none, none] _
    refine w_start ?_
    obtain ⟨p0, t0, rfl, hs, ht⟩ := hz
    obtain ⟨r, hrk⟩ : ∃ r, rs[k]? = some r := ⟨_, List.getElem?_eq_getElem hk⟩
    have hro := hg.ok r (List.mem_of_getElem? hrk)
    have hcl := nV_len cs
    have hc5 : cs.length ≤ 5 := by have := hg.b5; omega
    repeat' (tm_at "rs")
    rename_i t1 us hT hR p hp
    cases r
    · rename_i j
      have hj : j < cs.length := by rw [hc]; exact hro
      have hat := nV_at hj
      have hp : H p = some (.tup [.str "raise", .int (j : Int)]) := hp
      repeat' (tm_at "rs")
      refine call_withMore (c := cs.getD j 0 + 1) ht hj hc5 (by omega) (fun q H1 s1 g1 => ?_)
      repeat' (tm_at "rs")
      rename_i u H2 n2 s2 g2
      exact kk _ _ (by tm_at "rsm") (by rw [aft_up hrk]; exact ⟨u, q, rfl, g2, s2 _ _ g1⟩)
    · rename_i j
      have hj : j < cs.length := by rw [hc]; exact hro
      have hat := nV_at hj
      have hp : H p = some (.tup [.str "lower", .int (j : Int)]) := hp
      repeat' (tm_at "rs")
      · rename_i e
        exact kk _ _ (Same.refl _) (by rw [aft_dn0 hrk (by omega)]; rfl)
      · rename_i e
        refine call_withMore (c := cs.getD j 0 - 1) ht hj hc5 (by omega) (fun q H1 s1 g1 => ?_)
        repeat' (tm_at "rs")
        rename_i u H2 n2 s2 g2
        exact kk _ _ (by tm_at "rsm") (by rw [aft_dn hrk (by omega)]; exact ⟨u, q, rfl, g2, s2 _ _ g1⟩)
    · rename_i j g
      have hj : j < cs.length := by rw [hc]; exact hro.1
      have hat := nV_at hj
      have hp : H p = some (.tup [.str "if", .int (j : Int), .int (g : Int)]) := hp
      repeat' (tm_at "rs")
      · rename_i H1 s1 l1 H2 n2 s2 g2 e u H3 n3 s3 g3
        exact kk _ _ (by tm_at "rsm") (by rw [aft_br0 hrk (by omega)]; exact ⟨u, t0, rfl, g3, by tm_at "rlk"⟩)
      · rename_i H1 s1 l1 H2 n2 s2 g2 e u H3 n3 s3 g3
        exact kk _ _ (by tm_at "rsm") (by rw [aft_br hrk (by omega)]; exact ⟨u, t0, rfl, g3, by tm_at "rlk"⟩)
    · rename_i g
      have hp : H p = some (.tup [.str "go", .int (g : Int)]) := hp
      repeat' (tm_at "rs")
      rename_i H1 s1 u H2 n2 s2 g2
      exact kk _ _ (by tm_at "rsm") (by rw [aft_go hrk]; exact ⟨u, t0, rfl, g2, by tm_at "rlk"⟩)
    · have hp : H p = some (.tup [.str "stop"]) := hp
      repeat' (tm_at "rs")
      exact kk _ _ (Same.refl _) (by rw [aft_st hrk]; rfl)
/-! ### ran -/
theorem ok_f_ran {f : Addr} {fd : FuncData} (F : FunD K "ran" "ran" (defArgs s_f_ran) (defBody s_f_ran) (defScope s_f_ran) [V.int 200] [] f fd)
    (D_f_step_from : Def P w K mg base CX0 "step_from" 2 ["program", "stand"] (sp_f_step_from K))
    (m_len : mg "len" = none)
    (m_tuple : mg "tuple" = none)
    (m_int : mg "int" = none) :
    FnG P w K mg base CX0 3 f fd ["program", "begin", "most"] (sp_f_ran K) := by
  refine okD F sc_f_ran (fun vs H Q E h => ?_) (fun cdv A outer s H vs Q E hr h => ⟨_, (pss_cons (ps_if (pt_cmpR (op_gNe (K := K) rfl hr.units) (pe_callB (call_gLen (K := K) rfl) (by rfl) m_len PySem.boot_len (pa_cons (pv 1) pa_nil)) (pe_fld (pv 0) rfl) (nomark _)) (pss_one ps_never) pss_nil)
    (pss_cons (ps_set (i := 3) sc_f_ran.nd rfl (by first | exact Or.inl rfl | exact Or.inr rfl) (pe_lst (pa_cons (pe_tup (pa_cons pe_int (pa_cons (pe_callTy (call_gTuple (K := K) rfl) (by rfl) m_tuple PyProof.Rows.boot_tuple (pa_cons (pv 1) pa_nil)) pa_nil))) pa_nil)))
    (pss_cons (ps_set (i := 4) sc_f_ran.nd rfl (by first | exact Or.inl rfl | exact Or.inr rfl) (pe_f D_f_step_from (hr.mono (by omega)) (by rfl) pass0 (pa_cons (pv 0) (pa_cons (pe_ix (ix_g (K := K) rfl) (pv 3) pe_int (fun _ _ => rfl)) pa_nil))))
    (pss_cons (ps_while PassesOwn.never (PW.pt (pw_and (pt_cmpR op_gNot (pv 4) pe_non (nomark _)) (pw_and1 (pt_cmpR op_gLe (pe_callB (call_gLen (K := K) rfl) (by rfl) m_len PySem.boot_len (pa_cons (pv 3) pa_nil)) (pv 2) (nomark _))))) (pss_cons (ps_expr (pe_gbm (K := K) rfl PySem.F.plainAttrs_list PySem.F.slot_list_append PySem.F.type_list_append mt_append (pv 3) (pa_cons (pv 4) pa_nil)))
    (pss_one (ps_set (i := 4) sc_f_ran.nd rfl (by first | exact Or.inl rfl | exact Or.inr rfl) (pe_f D_f_step_from (hr.mono (by omega)) (by rfl) pass0 (pa_cons (pv 0) (pa_cons (pv 4) pa_nil)))))))
    (pss_cons (ps_if (pt_cmpR op_gNot (pv 4) pe_non (nomark _)) (pss_one (ps_ret (pe_tup (pa_cons pe_str (pa_cons (pv 3) pa_nil))))) pss_nil)
    (pss_one (ps_ret (pe_tup (pa_cons (pe_ix (ix_g (K := K) rfl) (pe_lst (pa_cons pe_str (pa_cons pe_str pa_nil))) (pe_callTy call_gInt (by rfl) m_int PyProof.Rows.boot_int (pa_cons (pe_cmpR (op_gEq (K := K) rfl hr.units) (pe_ix (ix_g (K := K) rfl) (pe_ix (ix_g (K := K) rfl) (pe_fld (pv 0) rfl) (pe_ix (ix_g (K := K) rfl) (pe_ix (ix_g (K := K) rfl) (pv 3) (pe_un un_neg pe_int) (fun _ _ => rfl)) pe_int (fun _ _ => rfl)) (fun _ _ => rfl)) pe_int (fun _ _ => rfl)) pe_str (nomark _)) pa_nil)) (fun _ _ => rfl)) (pa_cons (pv 3) pa_nil)))))))))), ?_⟩)
  · obtain ⟨_, _, _, _, _, _, rfl, _⟩ := h
    rfl
  · obtain ⟨v, bp, m, M, bs, rs, rfl, hv, hb, hg, hl, hM, k⟩ := h
    try dsimp only [cxOf, Cx.nox, Cx.wish]
    change (_ : L2.TS) _ [some (v), some (.ref bp), some (.int (M : Nat)), none, none] _
    refine w_start ?_
    have hbl := nV_len bs
    refine w_seq ?_
    repeat' (tm_at "rs")
    refine w_len2 hb ?_
    repeat' (tm_at "rs")
    · rename_i e
      exact absurd (by omega) e
    refine w_gTpl2 hb (fun t0 H1 s1 g1 => ?_)
    repeat' (tm_at "rs")
    rename_i t1 H2 n2 s2 g2 L H3 nL s3 g3
    have hLn : H L = none := by tm_at "rfr"
    have hs0 : H3 t1 = some (.tup [.int 0, .ref t0]) := by tm_at "rlk"
    have hst : StdAt H3 (.ref t1) 0 bs := ⟨t1, t0, rfl, hs0, by tm_at "rlk"⟩
    have hpos := hg.pos
    repeat' (tm_at "rs")
    rename_i u H4 s4 hu
    refine w_while (fun n σ' H' => ∃ pre last xs u, σ' = [some v, some (.ref bp), some (.int (M : Nat)), some (.ref L), some u] ∧ H' L = some (.lst xs) ∧ SdL H' xs (pre ++ [last]) ∧ OStd H' u (aftr rs last.1 last.2) ∧ runL rs M (0, bs) = pre ++ runL rs (M - pre.length) last ∧ pre.length ≤ M ∧ last.1 < rs.length ∧ last.2.length = m ∧ Kp L H4 H' ∧ n + pre.length = M) M ⟨[], (0, bs), _, u, rfl, s4 _ _ g3, .cons (hst.tk (Tk.sm s4)) .nil, hu, rfl, Nat.zero_le _, hpos, hl, Kp.refl _, rfl⟩ ?_
    rintro n σ' H' ⟨pre, last, xs, u, rfl, hL, hx, hu, hrun, hpl, h1, h2, hkp, hn⟩
    have hxl : xs.length = pre.length + 1 := by rw [paired_len hx, List.length_append]; rfl
    have hv' : PrgAt K H' v m rs := (((((hv.sm s1).sm s2).sm s3).sm s4).kp (s4 _ _ g3) hkp)
    have hsm : Sm H H' := by tm_at "rsm"
    clear hv hb hst
    cases hA : aftr rs last.1 last.2 with
    | none =>
      rw [hA] at hu
      have hu : u = .non := hu
      subst hu
      obtain ⟨ys, x, rfl, hys, hxs⟩ := paired_last hx
      obtain ⟨p0, q0, rfl, hp0, hq0⟩ := id hxs
      have hat := atI_last ys (V.ref p0)
      obtain ⟨r, hrk⟩ : ∃ r, rs[last.1]? = some r := ⟨_, List.getElem?_eq_getElem h1⟩
      obtain ⟨zs, hz⟩ := r.vs_word
      have hz0 : atI r.vs 0 = some (.str r.word) := by rw [hz]; exact atI_nat (j := 0) rfl
      have hw := r.word_st
      repeat' (tm_at "rs")
      · rename_i l5 H5 n5 s5 g5 t us hT hR pr hpr e t6 H6 n6 s6 g6
        have hrs := hw.mp e
        subst hrs
        exact k t6 L _ pre last H6 hLn (by tm_at "rsm") (by rw [wordR_st hrk]; exact g6) (by tm_at "rlk") (hx.tk (by tm_at "rtk")) (runL_end hrun (.inl hA))
      · rename_i l5 H5 n5 s5 g5 t us hT hR pr hpr e t6 H6 n6 s6 g6
        exact k t6 L _ pre last H6 hLn (by tm_at "rsm") (by rw [wordR_stuck hrk (fun z => e (hw.mpr z)) hA]; exact g6) (by tm_at "rlk") (hx.tk (by tm_at "rtk")) (runL_end hrun (.inl hA))
    | some s' =>
      rw [hA] at hu
      obtain ⟨pu, qu, rfl, hpu, hqu⟩ := id hu
      have hsu : StdAt H' (.ref pu) s'.1 s'.2 := hu
      have hk' : s'.1 < rs.length := aft_in hg hA
      have hc' : s'.2.length = m := aft_len hg h2 hA
      repeat' (tm_at "rs")
      · rename_i hle H5 k5 g5 u6 H6 s6 hu6
        have t5 : Tk H' H6 := by tm_at "rtk"
        refine ⟨n - 1, by omega, pre ++ [last], s', _, u6, rfl, s6 _ _ g5, paired_app (hx.tk t5) (.cons (hsu.tk t5) .nil), hu6, runL_more hrun hA (by omega), by rw [List.length_append]; show pre.length + 1 ≤ M; omega, hk', hc', by tm_at "rkp", by rw [List.length_append]; show n - 1 + (pre.length + 1) = M; omega⟩
      · rename_i hle t6 H6 n6 s6 g6
        exact k t6 L _ pre last H6 hLn (by tm_at "rsm") (by rw [wordR_going hA]; exact g6) (by tm_at "rlk") (hx.tk (by tm_at "rtk")) (runL_end hrun (.inr (by omega)))
/-! ### stopped_run -/
theorem ok_f_stopped_run {f : Addr} {fd : FuncData} (F : Fun K "stopped_run" "stopped_run" s_f_stopped_run f fd)
    (DK_f_ran_p3 : DefK P w K mg base CX0 "ran" 3 ["program", "begin", "most"] [] gk_f_ran_p3 (sp_f_ran K)) :
    FnG P w K mg base CX0 4 f fd ["program", "begin", "most"] (sp_f_stopped_run K) := by
  refine okG F sc_f_stopped_run (fun vs H Q E h => ?_) (fun cdv A outer s H vs Q E hr h => ⟨_, (pss_cons (ps_asg (pe_fK DK_f_ran_p3 (hr.mono (by omega)) (by rfl) pass0 (pa_cons (pv 0) (pa_cons (pv 1) (pa_cons (pv 2) pa_nil))) pk_nil) (pg_gt (K := K) (n := 2) rfl rfl (pgs_cons (pg_name (i := 3) sc_f_stopped_run.nd rfl (by first | exact Or.inl rfl | exact Or.inr rfl)) (pgs_cons (pg_name (i := 4) sc_f_stopped_run.nd rfl (by first | exact Or.inl rfl | exact Or.inr rfl)) pgs_nil))))
    (pss_cons (ps_if (pt_cmpR (op_gNe (K := K) rfl hr.units) (pv 3) pe_str (nomark _)) (pss_one ps_never) pss_nil)
    (pss_one (ps_ret (pv 4))))), ?_⟩)
  · obtain ⟨_, _, _, _, _, _, rfl, _⟩ := h
    rfl
  · obtain ⟨v, bp, m, M, bs, rs, rfl, hv, hb, hg, hl, hM, hst, k⟩ := h
    try dsimp only [cxOf, Cx.nox, Cx.wish]
    change (_ : L2.TS) _ [some (v), some (.ref bp), some (.int (M : Nat)), none, none] _
    refine w_start ?_
    repeat' (tm_at "rs")
    refine call_ran hv hb hg hl hM (fun t L xs pre last H1 nL s1 gt gL hx hrun => ?_)
    repeat' (tm_at "rs")
    · rename_i e
      exact e (if_pos (hst pre last hrun))
    · exact k L xs H1 nL s1 gL (by rw [hrun]; exact hx)
/-! ### least_c -/
theorem ok_f_least_c {f : Addr} {fd : FuncData} (F : FunD K "least_c" "least_c" (defArgs s_f_least_c) (defBody s_f_least_c) (defScope s_f_least_c) [V.int 200] [] f fd)
    (D_f_c_for : Def P w K mg base CX0 "c_for" 3 ["program", "stands"] (sp_f_c_for K))
    (D_f_stopped_run : Def P w K mg base CX0 "stopped_run" 4 ["program", "begin", "most"] (sp_f_stopped_run K)) :
    FnG P w K mg base CX0 5 f fd ["program", "begin", "most"] (sp_f_least_c K) := by
  refine okD F sc_f_least_c (fun vs H Q E h => ?_) (fun cdv A outer s H vs Q E hr h => ⟨_, (pss_one (ps_ret (pe_f D_f_c_for (hr.mono (by omega)) (by rfl) pass0 (pa_cons (pv 0) (pa_cons (pe_f D_f_stopped_run (hr.mono (by omega)) (by rfl) pass0 (pa_cons (pv 0) (pa_cons (pv 1) (pa_cons (pv 2) pa_nil)))) pa_nil))))), ?_⟩)
  · obtain ⟨_, _, _, _, _, _, rfl, _⟩ := h
    rfl
  · obtain ⟨v, bp, m, M, bs, rs, rfl, hv, hb, hg, hl, hc, hM, hst, k⟩ := h
    try dsimp only [cxOf, Cx.nox, Cx.wish]
    change (_ : L2.TS) _ [some (v), some (.ref bp), some (.int (M : Nat))] _
    refine w_start ?_
    repeat' (tm_at "rs")
    refine call_stoppedRun hv hb hg hl (by omega) hst (fun L xs H1 nL s1 gL hx => ?_)
    have := (runL_len rs M (0, bs)).2
    repeat' (tm_at "rs")
    refine call_cFor (hv.sm s1) hg.len gL hx (run_ne _ _ _) (by omega) (run_bd hg hl hc (by omega)) (fun H2 s2 => ?_)
    repeat' (tm_at "rs")
    exact k H2 (s1.trans s2)
/-! ### sum_of -/
theorem ok_f_sum_of {f : Addr} {fd : FuncData} (F : Fun K "sum_of" "sum_of" s_f_sum_of f fd)
    (m_enumerate : mg "enumerate" = none)
    (m_int : mg "int" = none) :
    FnG P w K mg base CX0 1 f fd ["terms"] (sp_f_sum_of K) := by
  refine okG F sc_f_sum_of (fun vs H Q E h => ?_) (fun cdv A outer s H vs Q E hr h => ⟨_, (pss_cons (ps_set (i := 1) sc_f_sum_of.nd rfl (by first | exact Or.inl rfl | exact Or.inr rfl) (pe_tup (pa_cons pe_str (pa_cons pe_int pa_nil))))
    (pss_cons (ps_for PassesOwn.never rfl (pi_or (pi_enum (by rfl) m_enumerate (pa_cons (pv 0) pa_nil)) (pi_enT (by rfl) m_enumerate (pa_cons (pv 0) pa_nil))) (pg_gt (K := K) (n := 2) rfl rfl (pgs_cons (pg_name (i := 2) sc_f_sum_of.nd rfl (by first | exact Or.inl rfl | exact Or.inr rfl)) (pgs_cons (pg_name (i := 3) sc_f_sum_of.nd rfl (by first | exact Or.inl rfl | exact Or.inr rfl)) pgs_nil))) (pss_one (ps_set (i := 1) sc_f_sum_of.nd rfl (by first | exact Or.inl rfl | exact Or.inr rfl) (pe_ix (ix_g (K := K) rfl) (pe_lst (pa_cons (pe_tup (pa_cons pe_str (pa_cons (pv 1) (pa_cons (pv 3) pa_nil)))) (pa_cons (pv 3) pa_nil))) (pe_callTy call_gInt (by rfl) m_int PyProof.Rows.boot_int (pa_cons (pe_cmpR (op_gEq (K := K) rfl hr.units) (pv 2) pe_int (nomark _)) pa_nil)) (fun _ _ => rfl)))))
    (pss_one (ps_ret (pv 1))))), ?_⟩)
  · obtain ⟨_, _, _, rfl, _⟩ := h
    rfl
  · obtain ⟨p, xs, ts, rfl, hp, hx, k⟩ := h
    try dsimp only [cxOf, Cx.nox, Cx.wish]
    change (_ : L2.TS) _ [some (.ref p), none, none, none] _
    refine w_start ?_
    have hxl := paired_len hx
    repeat' (tm_at "rs")
    rename_i z H1 nz sz gz
    rcases hp with hp | hp
    · refine .inl ?_
      repeat' (tm_at "rs")
      refine loopEn (xs := xs) (fun i σ' H' => ∃ (v : V) (x2 x3 : Option V), σ' = [some (.ref p), some v, x2, x3] ∧ Sm H H' ∧ TmAt K H' (sumT (ts.take i)) v) ⟨_, _, _, rfl, sz, tm_num gz⟩ ?_ ?_ ?_
      · rintro i σ' H' hi ⟨v, x2, x3, rfl, hs, hv⟩
        exact sq_of (hs _ _ hp)
      · rintro i x T σ' H1 H2 hi hxi ⟨v, x2, x3, rfl, hs, hv⟩ nT sT gT
        obtain ⟨t, hti, ht⟩ := paired_get hx hxi
        have ht2 := ht.sm (hs.trans sT)
        have hv2 := hv.sm sT
        have htk : ts.take (i + 1) = ts.take i ++ [t] := by rw [List.take_succ, hti]; rfl
        repeat' (tm_at "rs")
        · first
          | (rename_i q H3 nq sq gq L H4 nL sL gL hL e
             have e : i = 0 := by omega
             subst e
             refine ⟨_, _, _, rfl, hs.trans (sT.trans (sq.trans sL)), ?_⟩
             rw [htk]
             exact ht2.sm (sq.trans sL))
          | (rename_i q H3 nq sq gq L H4 nL sL gL e
             have e : i = 0 := by omega
             subst e
             refine ⟨_, _, _, rfl, hs.trans (sT.trans (sq.trans sL)), ?_⟩
             rw [htk]
             exact ht2.sm (sq.trans sL))
        · first
          | (rename_i q H3 nq sq gq L H4 nL sL gL hL e
             refine ⟨_, _, _, rfl, hs.trans (sT.trans (sq.trans sL)), ?_⟩
             rw [htk, sumT_add (by
               intro z
               have h1 := congrArg List.length z
               have h2 := (List.getElem?_eq_some_iff.mp hti).1
               rw [List.length_take] at h1
               have h3 : ([] : List Tm).length = 0 := rfl
               omega)]
             first | exact (tm_op gq (hv2.sm sq) (ht2.sm sq)).sm sL | exact TmAt.sm gq sL)
          | (rename_i q H3 nq sq gq L H4 nL sL gL e
             refine ⟨_, _, _, rfl, hs.trans (sT.trans (sq.trans sL)), ?_⟩
             rw [htk, sumT_add (by
               intro z
               have h1 := congrArg List.length z
               have h2 := (List.getElem?_eq_some_iff.mp hti).1
               rw [List.length_take] at h1
               have h3 : ([] : List Tm).length = 0 := rfl
               omega)]
             first | exact (tm_op gq (hv2.sm sq) (ht2.sm sq)).sm sL | exact TmAt.sm gq sL)
      · rintro σ' H' ⟨v, x2, x3, rfl, hs, hv⟩
        rw [hxl, List.take_length] at hv
        repeat' (tm_at "rs")
        exact k _ _ hs hv
    · refine .inr ?_
      repeat' (tm_at "rs")
      refine loopEt (xs := xs) (fun i σ' H' => ∃ (v : V) (x2 x3 : Option V), σ' = [some (.ref p), some v, x2, x3] ∧ Sm H H' ∧ TmAt K H' (sumT (ts.take i)) v) ⟨_, _, _, rfl, sz, tm_num gz⟩ ?_ ?_ ?_
      · rintro i σ' H' hi ⟨v, x2, x3, rfl, hs, hv⟩
        exact st_of (hs _ _ hp)
      · rintro i x T σ' H1 H2 hi hxi ⟨v, x2, x3, rfl, hs, hv⟩ nT sT gT
        obtain ⟨t, hti, ht⟩ := paired_get hx hxi
        have ht2 := ht.sm (hs.trans sT)
        have hv2 := hv.sm sT
        have htk : ts.take (i + 1) = ts.take i ++ [t] := by rw [List.take_succ, hti]; rfl
        repeat' (tm_at "rs")
        · first
          | (rename_i q H3 nq sq gq L H4 nL sL gL hL e
             have e : i = 0 := by omega
             subst e
             refine ⟨_, _, _, rfl, hs.trans (sT.trans (sq.trans sL)), ?_⟩
             rw [htk]
             exact ht2.sm (sq.trans sL))
          | (rename_i q H3 nq sq gq L H4 nL sL gL e
             have e : i = 0 := by omega
             subst e
             refine ⟨_, _, _, rfl, hs.trans (sT.trans (sq.trans sL)), ?_⟩
             rw [htk]
             exact ht2.sm (sq.trans sL))
        · first
          | (rename_i q H3 nq sq gq L H4 nL sL gL hL e
             refine ⟨_, _, _, rfl, hs.trans (sT.trans (sq.trans sL)), ?_⟩
             rw [htk, sumT_add (by
               intro z
               have h1 := congrArg List.length z
               have h2 := (List.getElem?_eq_some_iff.mp hti).1
               rw [List.length_take] at h1
               have h3 : ([] : List Tm).length = 0 := rfl
               omega)]
             first | exact (tm_op gq (hv2.sm sq) (ht2.sm sq)).sm sL | exact TmAt.sm gq sL)
          | (rename_i q H3 nq sq gq L H4 nL sL gL e
             refine ⟨_, _, _, rfl, hs.trans (sT.trans (sq.trans sL)), ?_⟩
             rw [htk, sumT_add (by
               intro z
               have h1 := congrArg List.length z
               have h2 := (List.getElem?_eq_some_iff.mp hti).1
               rw [List.length_take] at h1
               have h3 : ([] : List Tm).length = 0 := rfl
               omega)]
             first | exact (tm_op gq (hv2.sm sq) (ht2.sm sq)).sm sL | exact TmAt.sm gq sL)
      · rintro σ' H' ⟨v, x2, x3, rfl, hs, hv⟩
        rw [hxl, List.take_length] at hv
        repeat' (tm_at "rs")
        exact k _ _ hs hv
/-! ### named -/
theorem ok_f_named {f : Addr} {fd : FuncData} (F : FunD K "named" "named" (defArgs s_f_named) (defBody s_f_named) (defScope s_f_named) [V.str ""] [] f fd) :
    FnG P w K mg base CX0 1 f fd ["letter", "number"] (sp_f_named K) := by
  refine okD F sc_f_named (fun vs H Q E h => ?_) (fun cdv A outer s H vs Q E hr h => ⟨_, (pss_one (ps_ret (pe_tup (pa_cons pe_str (pa_cons (pe_joined (PJ.cons (pe_fmt (pv 0)) (PJ.cons (pe_fmt (pv 1)) PJ.nil))) pa_nil))))), ?_⟩)
  · obtain ⟨_, _, _, rfl, _⟩ := h
    rfl
  · obtain ⟨c, n, z, rfl, hn, hc, k⟩ := h
    try dsimp only [cxOf, Cx.nox, Cx.wish]
    change (_ : L2.TS) _ [some (.str c), some (n)] _
    refine w_start ?_
    rcases hn with ⟨rfl, rfl⟩ | ⟨j, rfl, hj, rfl⟩
    · have e0 : (Str.ofString "").length = 0 := rfl
      have ap0 : ∀ z : Str, z ++ Str.ofString "" = z := fun z => by
        cases z with
        | mk c =>
          show Str.mk (c ++ #[]) = _
          rw [Array.append_empty]
      repeat' (tm_at "rs")
      repeat' (tm_at "rs")
      rename_i p H1 np sm g
      rw [ap0] at g
      exact k p H1 np sm (tm_name g)
    · repeat' (tm_at "rs")
      rename_i p H1 np sm g
      exact k p H1 np sm (tm_name g)
/-! ### Saying.__init__ -/
theorem ok_f_Saying__init {f : Addr} {fd : FuncData} (F : Fun K "__init__" "Saying.__init__" s_f_Saying__init f fd) {a_WORDS : Addr}
    (c_WORDS : mg "WORDS" = some (.ref a_WORDS))
    (d_WORDS : KDs K w a_WORDS ["same", "under"]) :
    FnG P w K mg base CX0 1 f fd ["self", "word", "left", "right"] (sp_f_Saying__init K) := by
  refine okG F sc_f_Saying__init (fun vs H Q E h => ?_) (fun cdv A outer s H vs Q E hr h => ⟨_, (pss_cons (ps_if (pt_cmp (pc_niK (pv 1) (pe_glob (v := .ref a_WORDS) rfl c_WORDS rfl))) (pss_one ps_never) pss_nil)
    (pss_cons (ps_fld (pv 0) (pv 1) rfl)
    (pss_cons (ps_fld (pv 0) (pv 2) rfl)
    (pss_one (ps_fld (pv 0) (pv 3) rfl))))), ?_⟩)
  · obtain ⟨_, _, _, _, _, _, rfl, _⟩ := h
    rfl
  · obtain ⟨p, C, dx, w, l, r, rfl, hp, hC, hw, k⟩ := h
    try dsimp only [cxOf, Cx.nox, Cx.wish]
    change (_ : L2.TS) _ [some (.ref p), some (.str w), some (l), some (r)] _
    refine w_start ?_
    repeat' (tm_at "rs")
    refine w_nie d_WORDS (by rcases hw with rfl | rfl <;> simp) ?_
    repeat' (tm_at "rs")
    refine w_sfldE hp hC.cl (hC.na _ (by simp)) (by show 0 < 1000; decide) (fun H1 k1 g1 => ?_)
    repeat' (tm_at "rs")
    refine w_sfldE g1 hC.cl (hC.na _ (by simp)) (by show 1 < 1000; decide) (fun H2 k2 g2 => ?_)
    repeat' (tm_at "rs")
    refine w_sfldE g2 hC.cl (hC.na _ (by simp)) (by show 2 < 1000; decide) (fun H3 k3 g3 => ?_)
    repeat' (tm_at "rs")
    exact k _ (Kp.trans k1 (Kp.trans k2 k3)) g3
/-! ### power_at -/
theorem ok_f_power_at {f : Addr} {fd : FuncData} (F : Fun K "power_at" "power_at" s_f_power_at f fd) {a_TWO : Addr}
    (DK_f_named_p1 : DefK P w K mg base CX0 "named" 1 ["letter", "number"] [] gk_f_named_p1 (sp_f_named K))
    (c_TWO : mg "TWO" = some (.ref a_TWO))
    (d_TWO : ∀ H : Hp, SqT K H a_TWO [V.str "num", V.int 2]) :
    FnG P w K mg base CX0 2 f fd ["steps"] (sp_f_power_at K) := by
  refine okG F sc_f_power_at (fun vs H Q E h => ?_) (fun cdv A outer s H vs Q E hr h => ⟨_, (pss_one (ps_ret (pe_tup (pa_cons pe_str (pa_cons (pe_glob (v := .ref a_TWO) rfl c_TWO rfl) (pa_cons (pe_tup (pa_cons pe_str (pa_cons (pe_fK DK_f_named_p1 (hr.mono (by omega)) (by rfl) pass0 (pa_cons pe_str pa_nil) pk_nil) (pa_cons (pv 0) pa_nil)))) pa_nil)))))), ?_⟩)
  · obtain ⟨_, _, rfl, _⟩ := h
    rfl
  · obtain ⟨v, t, rfl, hv, k⟩ := h
    try dsimp only [cxOf, Cx.nox, Cx.wish]
    change (_ : L2.TS) _ [some (v)] _
    refine w_start ?_
    have h2 : TmAt K H (.num 2) (.ref a_TWO) := ⟨_, rfl, .inr fun H => d_TWO H⟩
    repeat' (tm_at "rs")
    exact k _ _ (by tm_at "rsm") (by assumption)
/-! ### top -/
theorem ok_f_top {f : Addr} {fd : FuncData} (F : Fun K "top" "top" s_f_top f fd) {a_ONE : Addr}
    (D_f_power_at : Def P w K mg base CX0 "power_at" 2 ["steps"] (sp_f_power_at K))
    (DK_f_named_p1 : DefK P w K mg base CX0 "named" 1 ["letter", "number"] [] gk_f_named_p1 (sp_f_named K))
    (c_ONE : mg "ONE" = some (.ref a_ONE))
    (d_ONE : ∀ H : Hp, SqT K H a_ONE [V.str "num", V.int 1]) :
    FnG P w K mg base CX0 3 f fd [] (sp_f_top K) := by
  refine okG F sc_f_top (fun vs H Q E h => ?_) (fun cdv A outer s H vs Q E hr h => ⟨_, (pss_one (ps_ret (pe_f D_f_power_at (hr.mono (by omega)) (by rfl) pass0 (pa_cons (pe_tup (pa_cons pe_str (pa_cons (pe_fK DK_f_named_p1 (hr.mono (by omega)) (by rfl) pass0 (pa_cons pe_str pa_nil) pk_nil) (pa_cons (pe_glob (v := .ref a_ONE) rfl c_ONE rfl) pa_nil)))) pa_nil)))), ?_⟩)
  · obtain ⟨rfl, _⟩ := h
    rfl
  · obtain ⟨rfl, k⟩ := h
    try dsimp only [cxOf, Cx.nox, Cx.wish]
    change (_ : L2.TS) _ [] _
    refine w_start ?_
    have h1 : TmAt K H (.num 1) (.ref a_ONE) := ⟨_, rfl, .inr fun H => d_ONE H⟩
    repeat' (tm_at "rs")
    exact k _ _ (by tm_at "rsm") (by assumption)
/-! ### base_sayings -/
theorem ok_f_base_sayings {f : Addr} {fd : FuncData} (F : Fun K "base_sayings" "base_sayings" s_f_base_sayings f fd) {a_TWO : Addr} {a_ONE : Addr} {C_Saying : Addr} {C_Program : Addr}
    (D_f_sum_of : Def P w K mg base CX0 "sum_of" 1 ["terms"] (sp_f_sum_of K))
    (G_Saying : DefM P w K mg base CX0 "Saying" 1 ["self", "word", "left", "right"] (sp_f_Saying__init K) C_Saying)
    (SC_Saying : ClsN K "Saying" C_Saying ["word", "left", "right"])
    (D_f_top : Def P w K mg base CX0 "top" 3 [] (sp_f_top K))
    (M_Program_len : DefO P w K mg base CX0 C_Program "__len__" 1 ["self"] (sp_f_Program__len K))
    (SC_Program : ClsN K "Program" C_Program ["boxes", "rows"])
    (OC_Program : ClsO K C_Program)
    (DK_f_named_p1 : DefK P w K mg base CX0 "named" 1 ["letter", "number"] [] gk_f_named_p1 (sp_f_named K))
    (DK_f_named_p2 : DefK P w K mg base CX0 "named" 1 ["letter", "number"] [] gk_f_named_p2 (sp_f_named K))
    (m_range : mg "range" = none)
    (m_len : mg "len" = none)
    (c_TWO : mg "TWO" = some (.ref a_TWO))
    (d_TWO : ∀ H : Hp, SqT K H a_TWO [V.str "num", V.int 2])
    (c_ONE : mg "ONE" = some (.ref a_ONE))
    (d_ONE : ∀ H : Hp, SqT K H a_ONE [V.str "num", V.int 1]) :
    FnG P w K mg base CX0 4 f fd ["program"] (sp_f_base_sayings K) := by
  refine okG F sc_f_base_sayings (fun vs H Q E h => ?_) (fun cdv A outer s H vs Q E hr h => ⟨_, (pss_cons (ps_set (i := 1) sc_f_base_sayings.nd rfl (by first | exact Or.inl rfl | exact Or.inr rfl) (pe_f D_f_sum_of (hr.mono (by omega)) (by rfl) pass0 (pa_cons (pe_lc (own := _) rfl sc_f_base_sayings.nd (pi_range1 (by rfl) m_range (pa_cons (pe_fld (pv 0) rfl) pa_nil)) (blkOk_by (own := [("j", 2)]) (N := ["program", "xs", "j", "q", "h", "i", "found"]) (sc := defScope s_f_base_sayings) (by decide +kernel)) (fun _ _ _ _ _ => (pg_name (i := 2) sc_f_base_sayings.nd rfl (by first | exact Or.inl rfl | exact Or.inr rfl))) (fun _ _ _ _ _ => pts_nil) (fun _ _ _ _ _ => (pe_fK DK_f_named_p2 (hr.mono (by omega)) (by rfl) pass0 (pa_cons pe_str (pa_cons (pv 2) pa_nil)) pk_nil))) pa_nil)))
    (pss_cons (ps_par3 (i := 3) (j := 4) (l := 5) rfl sc_f_base_sayings.nd rfl rfl rfl (by decide) (by decide) (by decide) rfl rfl rfl (pa_cons (pe_fK DK_f_named_p1 (hr.mono (by omega)) (by rfl) pass0 (pa_cons pe_str pa_nil) pk_nil) (pa_cons (pe_fK DK_f_named_p1 (hr.mono (by omega)) (by rfl) pass0 (pa_cons pe_str pa_nil) pk_nil) (pa_cons (pe_fK DK_f_named_p1 (hr.mono (by omega)) (by rfl) pass0 (pa_cons pe_str pa_nil) pk_nil) pa_nil))) (by rfl))
    (pss_cons (ps_set (i := 6) sc_f_base_sayings.nd rfl (by first | exact Or.inl rfl | exact Or.inr rfl) (pe_lst (pa_cons (pe_mk G_Saying (hr.mono (by omega)) (by rfl) pass0 (pa_cons pe_str (pa_cons (pv 4) (pa_cons (pe_tup (pa_cons pe_str (pa_cons (pe_tup (pa_cons pe_str (pa_cons (pv 1) (pa_cons (pe_glob (v := .ref a_ONE) rfl c_ONE rfl) pa_nil)))) (pa_cons (pe_fK DK_f_named_p1 (hr.mono (by omega)) (by rfl) pass0 (pa_cons pe_str pa_nil) pk_nil) pa_nil)))) pa_nil)))) pa_nil)))
    (pss_cons (ps_expr (pe_gbm (K := K) rfl PySem.F.plainAttrs_list PySem.F.slot_list_append PySem.F.type_list_append mt_append (pv 6) (pa_cons (pe_mk G_Saying (hr.mono (by omega)) (by rfl) pass0 (pa_cons pe_str (pa_cons (pv 3) (pa_cons (pe_tup (pa_cons pe_str (pa_cons (pe_glob (v := .ref a_TWO) rfl c_TWO rfl) (pa_cons (pv 4) pa_nil)))) pa_nil)))) pa_nil)))
    (pss_cons (ps_expr (pe_gbm (K := K) rfl PySem.F.plainAttrs_list PySem.F.slot_list_append PySem.F.type_list_append mt_append (pv 6) (pa_cons (pe_mk G_Saying (hr.mono (by omega)) (by rfl) pass0 (pa_cons pe_str (pa_cons (pv 3) (pa_cons (pe_tup (pa_cons pe_str (pa_cons (pe_glob (v := .ref a_TWO) rfl c_TWO rfl) (pa_cons (pe_fK DK_f_named_p1 (hr.mono (by omega)) (by rfl) pass0 (pa_cons pe_str pa_nil) pk_nil) pa_nil)))) pa_nil)))) pa_nil)))
    (pss_cons (ps_expr (pe_gbm (K := K) rfl PySem.F.plainAttrs_list PySem.F.slot_list_append PySem.F.type_list_append mt_append (pv 6) (pa_cons (pe_mk G_Saying (hr.mono (by omega)) (by rfl) pass0 (pa_cons pe_str (pa_cons (pv 3) (pa_cons (pe_tup (pa_cons pe_str (pa_cons (pe_tup (pa_cons pe_str (pa_cons (pe_op (op_gAdd (K := K) rfl) (pe_callB (cr_lenO M_Program_len (hr.mono (by omega)) pass0) (by rfl) m_len PySem.boot_len (pa_cons (pv 0) pa_nil)) pe_int) pa_nil))) (pa_cons (pe_fK DK_f_named_p1 (hr.mono (by omega)) (by rfl) pass0 (pa_cons pe_str pa_nil) pk_nil) pa_nil)))) pa_nil)))) pa_nil)))
    (pss_cons (ps_expr (pe_gbm (K := K) rfl PySem.F.plainAttrs_list PySem.F.slot_list_append PySem.F.type_list_append mt_append (pv 6) (pa_cons (pe_mk G_Saying (hr.mono (by omega)) (by rfl) pass0 (pa_cons pe_str (pa_cons (pe_tup (pa_cons pe_str (pa_cons (pe_tup (pa_cons pe_str (pa_cons (pv 3) (pa_cons (pv 5) pa_nil)))) (pa_cons (pe_glob (v := .ref a_ONE) rfl c_ONE rfl) pa_nil)))) (pa_cons (pe_tup (pa_cons pe_str (pa_cons (pe_f0 D_f_top (hr.mono (by omega)) (by rfl) pass0) (pa_cons (pv 5) pa_nil)))) pa_nil)))) pa_nil)))
    (pss_cons (ps_expr (pe_gbm (K := K) rfl PySem.F.plainAttrs_list PySem.F.slot_list_append PySem.F.type_list_append mt_append (pv 6) (pa_cons (pe_mk G_Saying (hr.mono (by omega)) (by rfl) pass0 (pa_cons pe_str (pa_cons (pe_tup (pa_cons pe_str (pa_cons (pe_fK DK_f_named_p1 (hr.mono (by omega)) (by rfl) pass0 (pa_cons pe_str pa_nil) pk_nil) (pa_cons (pv 5) pa_nil)))) (pa_cons (pe_tup (pa_cons pe_str (pa_cons (pv 4) (pa_cons (pv 5) pa_nil)))) pa_nil)))) pa_nil)))
    (pss_one (ps_ret (pv 6))))))))))), ?_⟩)
  · obtain ⟨_, _, _, rfl, _⟩ := h
    rfl
  · obtain ⟨v, m, rs, rfl, hv, hm, hl, k⟩ := h
    try dsimp only [cxOf, Cx.nox, Cx.wish]
    change (_ : L2.TS) _ [some (v), none, none, none, none, none, none] _
    refine w_start ?_
    have h1 : TmAt K H (.num 1) (.ref a_ONE) := ⟨_, rfl, .inr fun H => d_ONE H⟩
    have h2 : TmAt K H (.num 2) (.ref a_TWO) := ⟨_, rfl, .inr fun H => d_TWO H⟩
    repeat' (tm_at "rs")
    refine lcR (fun D i H' => ∃ xs, H' D = some (.lst xs) ∧ xs.length = i ∧ TmsAt K H' xs ((List.range i).map fun j => .name (nmS "x" j)) ∧ Sm H H') ?_ ?_ ?_
    · exact fun D H' nD sm hD => ⟨[], hD, rfl, .nil, sm⟩
    · rintro D i H' nD hi ⟨xs, hD, hxl, hx, sm⟩
      have hx100 : xs.length ≤ 100 := by omega
      repeat' (tm_at "rs")
      refine call_nmJ (Int.zero_add _) (by omega) (by decide) (fun q H2 nq sq tq => ?_)
      have hD2 := sq _ _ hD
      repeat' (tm_at "rs")
      rename_i H3 k3 g3
      refine ⟨_, g3, by rw [List.length_append, hxl]; rfl, ?_, by tm_at "rsm"⟩
      rw [List.range_succ, List.map_append]
      exact ((hx.sm sq).add tq).kpL hD2 k3
    · rintro D H' nD ⟨xs, hD, hxl, hx, sm⟩
      rw [Int.toNat_natCast] at hx
      repeat' (tm_at "rs")
      refine call_sumOf hD hx (fun sv H1 s1 hsum => ?_)
      clear hx hD
      repeat' (tm_at "rs")
      exact k _ _ _ (by tm_at "rfr") (by tm_at "rsm") (by assumption) (by assumption)
/-! ### asked_boxes -/
theorem ok_f_asked_boxes {f : Addr} {fd : FuncData} (F : Fun K "asked_boxes" "asked_boxes" s_f_asked_boxes f fd)
    (D_f_goal_of : Def P w K mg base CX0 "goal_of" 1 ["program", "k"] (sp_f_goal_of K))
    (m_enumerate : mg "enumerate" = none)
    (m_sorted : mg "sorted" = none) :
    FnG P w K mg base CX0 2 f fd ["program"] (sp_f_asked_boxes K) := by
  refine okG F sc_f_asked_boxes (fun vs H Q E h => ?_) (fun cdv A outer s H vs Q E hr h => ⟨_, (pss_cons (ps_set (i := 1) sc_f_asked_boxes.nd rfl (by first | exact Or.inl rfl | exact Or.inr rfl) pe_dnewK)
    (pss_cons (ps_for PassesOwn.never rfl (pi_enT (by rfl) m_enumerate (pa_cons (pe_fld (pv 0) rfl) pa_nil)) (pg_gt (K := K) (n := 2) rfl rfl (pgs_cons (pg_name (i := 2) sc_f_asked_boxes.nd rfl (by first | exact Or.inl rfl | exact Or.inr rfl)) (pgs_cons (pg_name (i := 3) sc_f_asked_boxes.nd rfl (by first | exact Or.inl rfl | exact Or.inr rfl)) pgs_nil))) (pss_one (ps_if (PW.pt (pw_and (pt_cmpR (op_gEq (K := K) rfl hr.units) (pe_ix (ix_g (K := K) rfl) (pv 3) pe_int (fun _ _ => rfl)) pe_str (nomark _)) (pw_and1 (pt_cmpR (op_gNe (K := K) rfl hr.units) (pe_f D_f_goal_of (hr.mono (by omega)) (by rfl) pass0 (pa_cons (pv 0) (pa_cons (pv 2) pa_nil))) (pe_op (op_gAdd (K := K) rfl) (pv 2) pe_int) (nomark _))))) (pss_one (ps_dput (u_one hr.units) (pv 1) (pe_ix (ix_g (K := K) rfl) (pv 3) pe_int (fun _ _ => rfl)) pe_bl rfl)) pss_nil)))
    (pss_one (ps_ret (pe_callB (call_gSrtD rfl) (by rfl) m_sorted (by decide +kernel) (pa_cons (pv 1) pa_nil)))))), ?_⟩)
  · obtain ⟨_, _, _, rfl, _⟩ := h
    rfl
  · obtain ⟨v, m, rs, rfl, hv, ho, hl, k⟩ := h
    try dsimp only [cxOf, Cx.nox, Cx.wish]
    change (_ : L2.TS) _ [some (v), none, none, none] _
    refine w_start ?_
    repeat' (tm_at "rs")
    rename_i D H0 nD sD gD t us hT hR
    have hul : us.length = rs.length := paired_len hR
    have hv0 := hv.sm sD
    refine loopEt (xs := us) (fun i σ' H' => ∃ (x2 x3 : Option V) (kvs : List (Key × V)) (ks : List Nat), σ' = [some v, some (.ref D), x2, x3] ∧ Kp D H0 H' ∧ H' D = some (.dK kvs) ∧ kvs.map (·.1) = ks.map nKey ∧ ks.Nodup ∧ ks.length ≤ i ∧ ∀ j, j ∈ ks ↔ askB rs j i = true) ?_ ?_ ?_ ?_
    · exact ⟨_, _, [], [], rfl, Kp.refl _, gD, rfl, List.nodup_nil, Nat.le_refl _, fun j => by simp [askB]⟩
    · rintro i σ' H' hi ⟨x2, x3, kvs, ks, rfl, hk, hD, e, nd, l, hm⟩
      exact st_of (Tk.kd gD hk _ _ hT)
    · rintro i x T σ' H1 H2 hi hx ⟨x2, x3, kvs, ks, rfl, hk, hD, e, nd, l, hm⟩ nT sT gT
      obtain ⟨r, hri, p, rfl, hp⟩ := paired_get hR hx
      have tk : Tk H0 H2 := (Tk.kd gD hk).trans (Tk.sm sT)
      have hp2 := tk _ _ hp
      have hv2 : PrgAt K H2 v m rs := by
        obtain ⟨q, C, dx, t', vs, rfl, c, g, ht', hr'⟩ := hv0
        have qD : q ≠ D := fun z => by rw [z, gD] at g; cases g
        exact ⟨q, C, dx, t', vs, rfl, c, sT _ _ (hk _ _ qD g), tk _ _ ht', hr'.tk tk⟩
      have hD2 := sT _ _ hD
      have hkl : kvs.length ≤ 1000 := by
        have := congrArg List.length e
        rw [List.length_map, List.length_map] at this
        omega
      have stay : (∀ j, isAsk rs j i = false) → ∀ j, j ∈ ks ↔ askB rs j (i + 1) = true := fun h j => by
        rw [askB_succ, hm, h j, Bool.or_false]
      have kp2 : Kp D H0 H2 := Kp.trans hk (Kp.of sT)
      rcases r with j | j | ⟨j, g⟩ | g | _
      · have hp3 : H2 p = some (.tup [.str "raise", .int (j : Int)]) := hp2
        clear hp2
        repeat' (tm_at "rs")
        exact ⟨_, _, kvs, ks, rfl, kp2, hD2, e, nd, by omega, stay fun j => isAsk_no hri (by intro i g z; cases z)⟩
      · have hp3 : H2 p = some (.tup [.str "lower", .int (j : Int)]) := hp2
        clear hp2
        repeat' (tm_at "rs")
        exact ⟨_, _, kvs, ks, rfl, kp2, hD2, e, nd, by omega, stay fun j => isAsk_no hri (by intro i g z; cases z)⟩
      · have hp3 : H2 p = some (.tup [.str "if", .int (j : Int), .int (g : Int)]) := hp2
        clear hp2
        repeat' (tm_at "rs")
        rename_i H3 s3
        show gNe K (.int (g : Int)) (.int ((i : Int) + 1)) H3 _
        have hD3 := s3 _ _ hD2
        have hp4 := s3 _ _ hp3
        have kp3 : Kp D H0 H3 := Kp.trans kp2 (Kp.of s3)
        repeat' (tm_at "rs")
        · rename_i e2 H4 k4 g4
          have ha : isAsk rs j i = true := by
            rw [isAsk_br hri, decide_eq_true rfl, decide_eq_true (by omega)]
            rfl
          have oth : ∀ j', j' ≠ j → isAsk rs j' i = false := fun j' n => by
            rw [isAsk_br hri, decide_eq_false (fun z => n z.symm)]
            rfl
          have kp4 : Kp D H0 H4 := Kp.trans kp3 k4
          have g4' : H4 D = some (.dK (putK kvs (nKey j) (.bl true))) := g4
          by_cases hj : j ∈ ks
          · refine ⟨_, _, _, ks, rfl, kp4, g4', ?_, nd, by omega, fun j' => ?_⟩
            · rw [putK_old (by rw [e]; exact List.mem_map.mpr ⟨j, hj, rfl⟩), e]
            · rw [askB_succ, hm]
              by_cases q : j' = j
              · rw [q, ha, Bool.or_true, (hm j).mp hj]
              · rw [oth j' q, Bool.or_false]
          · refine ⟨_, _, _, ks ++ [j], rfl, kp4, g4', ?_, ?_, by rw [List.length_append]; show ks.length + 1 ≤ i + 1; omega, fun j' => ?_⟩
            · rw [putK_new (by
                rw [e]
                intro z
                obtain ⟨n, hn, q⟩ := List.mem_map.mp z
                exact hj (nKey_inj q ▸ hn)), e, List.map_append]
              rfl
            · refine List.nodup_append.mpr ⟨nd, by simp, fun x hx y hy => ?_⟩
              rw [List.mem_singleton.mp hy]
              exact fun q => hj (q ▸ hx)
            · rw [askB_succ, List.mem_append, List.mem_singleton, hm, Bool.or_eq_true]
              by_cases q : j' = j
              · rw [q, ha]
                simp
              · rw [oth j' q]
                simp [q]
        · rename_i e2
          have e3 : g = i + 1 := by omega
          exact ⟨_, _, kvs, ks, rfl, kp3, hD3, e, nd, by omega, stay fun j' => by
            rw [isAsk_br hri, decide_eq_false (p := g ≠ i + 1) (by omega), Bool.and_false]⟩
      · have hp3 : H2 p = some (.tup [.str "go", .int (g : Int)]) := hp2
        clear hp2
        repeat' (tm_at "rs")
        exact ⟨_, _, kvs, ks, rfl, kp2, hD2, e, nd, by omega, stay fun j => isAsk_no hri (by intro i g z; cases z)⟩
      · have hp3 : H2 p = some (.tup [.str "stop"]) := hp2
        clear hp2
        repeat' (tm_at "rs")
        exact ⟨_, _, kvs, ks, rfl, kp2, hD2, e, nd, by omega, stay fun j => isAsk_no hri (by intro i g z; cases z)⟩
    · rintro σ' H' ⟨x2, x3, kvs, ks, rfl, hk, hD, e, nd, l, hm⟩
      rw [hul] at l hm
      repeat' (tm_at "rs")
      refine w_srtD (l := asked m rs) hD e (by omega) nd asked_pw (fun j => ?_) (fun p H3 np s3 g3 => ?_)
      · rw [hm, asked, List.mem_filter, List.mem_range]
        exact ⟨fun h => ⟨askB_lt ho h, h⟩, fun h => h.2⟩
      · have sm := sm_mut sD nD hk
        repeat' (tm_at "rs")
        exact k p H3 (Same.free sm np) (sm.trans s3) g3
/-! ### rows_named -/
theorem ok_f_rows_named {f : Addr} {fd : FuncData} (F : Fun K "rows_named" "rows_named" s_f_rows_named f fd)
    (DK_f_named_p2 : DefK P w K mg base CX0 "named" 1 ["letter", "number"] [] gk_f_named_p2 (sp_f_named K)) :
    FnG P w K mg base CX0 2 f fd ["rows"] (sp_f_rows_named K) := by
  refine okG F sc_f_rows_named (fun vs H Q E h => ?_) (fun cdv A outer s H vs Q E hr h => ⟨_, (pss_one (ps_ret (pe_lc (own := _) rfl sc_f_rows_named.nd (pi_gl (K := K) rfl (pv 0)) (blkOk_by (own := [("k", 1)]) (N := ["rows", "k"]) (sc := defScope s_f_rows_named) (by decide +kernel)) (fun _ _ _ _ _ => (pg_name (i := 1) sc_f_rows_named.nd rfl (by first | exact Or.inl rfl | exact Or.inr rfl))) (fun _ _ _ _ _ => pts_nil) (fun _ _ _ _ _ => (pe_fK DK_f_named_p2 (hr.mono (by omega)) (by rfl) pass0 (pa_cons pe_str (pa_cons (pv 1) pa_nil)) pk_nil))))), ?_⟩)
  · obtain ⟨_, _, rfl, _⟩ := h
    rfl
  · obtain ⟨p, l, rfl, hp, hl, hn, k⟩ := h
    try dsimp only [cxOf, Cx.nox, Cx.wish]
    change (_ : L2.TS) _ [some (.ref p), none] _
    refine w_start ?_
    repeat' (tm_at "rs")
    refine lcLs (xs := nV l) (fun D i H' => ∃ xs, H' D = some (.lst xs) ∧ xs.length = i ∧ TmsAt K H' xs (lsT (l.take i)) ∧ Sm H H') ?_ ?_ ?_ ?_
    · exact fun D H' nD sm hD => ⟨[], hD, rfl, .nil, sm⟩
    · rintro D i H' nD hi ⟨xs, hD, hxl, hx, sm⟩
      exact sq_of (sm _ _ hp)
    · rintro D i x H' nD hi ⟨xs, hD, hxl, hx, sm⟩
      obtain ⟨n, hln, rfl⟩ : ∃ n : Nat, l[i]? = some n ∧ x = .int (n : Nat) := by
        unfold nV at hi
        rw [List.getElem?_map] at hi
        cases e : l[i]? with
        | none => rw [e] at hi; cases hi
        | some n => rw [e] at hi; exact ⟨n, rfl, (Option.some.inj hi).symm⟩
      have h1 := hn n (List.mem_of_getElem? hln)
      have hil := (List.getElem?_eq_some_iff.mp hln).1
      have htk : l.take (i + 1) = l.take i ++ [n] := by rw [List.take_succ, hln]; rfl
      have hx100 : xs.length ≤ 100 := by omega
      repeat' (tm_at "rs")
      rename_i q H2 nq sq tq H3 k3 g3
      have hD2 := sq _ _ hD
      refine ⟨_, g3, by rw [List.length_append, hxl]; rfl, ?_, by tm_at "rsm"⟩
      rw [htk]
      unfold lsT
      rw [List.map_append]
      exact ((hx.sm sq).add tq).kpL hD2 k3
    · rintro D H' nD ⟨xs, hD, hxl, hx, sm⟩
      rw [nV_len, List.take_length] at hx
      exact k _ xs _ nD sm hD hx
/-! ### time_sayings -/
theorem ok_f_time_sayings {f : Addr} {fd : FuncData} (F : Fun K "time_sayings" "time_sayings" s_f_time_sayings f fd) {a_ONE : Addr} {a_TWO : Addr} {C_Saying : Addr} {C_Program : Addr}
    (D_f_asked_boxes : Def P w K mg base CX0 "asked_boxes" 2 ["program"] (sp_f_asked_boxes K))
    (G_Saying : DefM P w K mg base CX0 "Saying" 1 ["self", "word", "left", "right"] (sp_f_Saying__init K) C_Saying)
    (SC_Saying : ClsN K "Saying" C_Saying ["word", "left", "right"])
    (D_f_sum_of : Def P w K mg base CX0 "sum_of" 1 ["terms"] (sp_f_sum_of K))
    (D_f_power_at : Def P w K mg base CX0 "power_at" 2 ["steps"] (sp_f_power_at K))
    (D_f_rows_named : Def P w K mg base CX0 "rows_named" 2 ["rows"] (sp_f_rows_named K))
    (M_Program_len : DefO P w K mg base CX0 C_Program "__len__" 1 ["self"] (sp_f_Program__len K))
    (SC_Program : ClsN K "Program" C_Program ["boxes", "rows"])
    (OC_Program : ClsO K C_Program)
    (DK_f_named_p2 : DefK P w K mg base CX0 "named" 1 ["letter", "number"] [] gk_f_named_p2 (sp_f_named K))
    (DK_f_named_p1 : DefK P w K mg base CX0 "named" 1 ["letter", "number"] [] gk_f_named_p1 (sp_f_named K))
    (m_list : mg "list" = none)
    (m_range : mg "range" = none)
    (m_len : mg "len" = none)
    (c_ONE : mg "ONE" = some (.ref a_ONE))
    (d_ONE : ∀ H : Hp, SqT K H a_ONE [V.str "num", V.int 1])
    (c_TWO : mg "TWO" = some (.ref a_TWO))
    (d_TWO : ∀ H : Hp, SqT K H a_TWO [V.str "num", V.int 2]) :
    FnG P w K mg base CX0 3 f fd ["program"] (sp_f_time_sayings K) := by
  refine okG F sc_f_time_sayings (fun vs H Q E h => ?_) (fun cdv A outer s H vs Q E hr h => ⟨_, (pss_cons (ps_set (i := 1) sc_f_time_sayings.nd rfl (by first | exact Or.inl rfl | exact Or.inr rfl) (pe_listRg rfl (by rfl) m_list (prg_1 (by rfl) m_range (pe_callB (cr_lenO M_Program_len (hr.mono (by omega)) pass0) (by rfl) m_len PySem.boot_len (pa_cons (pv 0) pa_nil)))))
    (pss_cons (ps_setLc (i := 2) rfl sc_f_time_sayings.nd rfl rfl (sw_true rfl rfl rfl (by decide +kernel)) (pi_gl (K := K) rfl (pv 1)) (blkOk_by (own := [("k", 3)]) (N := ["program", "rows", "stops", "k", "found", "j", "twice"]) (sc := defScope s_f_time_sayings) (by decide +kernel)) (fun _ _ _ _ _ => (pg_name (i := 3) sc_f_time_sayings.nd rfl (by first | exact Or.inl rfl | exact Or.inr rfl))) (fun _ _ _ _ _ => pts_one (pt_cmpR (op_gEq (K := K) rfl hr.units) (pe_ix (ix_g (K := K) rfl) (pe_ix (ix_g (K := K) rfl) (pe_fldK (K := K) rfl (pv 0) rfl) (pv 3) (fun _ _ => rfl)) pe_int (fun _ _ => rfl)) pe_str (nomark _))) (fun _ _ _ _ _ => (pv 3)))
    (pss_cons (ps_setLc (i := 4) rfl sc_f_time_sayings.nd rfl rfl (sw_true rfl rfl rfl (by decide +kernel)) (pi_range1 (by rfl) m_range (pa_cons (pe_fld (pv 0) rfl) pa_nil)) (blkOk_by (own := [("j", 5)]) (N := ["program", "rows", "stops", "k", "found", "j", "twice"]) (sc := defScope s_f_time_sayings) (by decide +kernel)) (fun _ _ _ _ _ => (pg_name (i := 5) sc_f_time_sayings.nd rfl (by first | exact Or.inl rfl | exact Or.inr rfl))) (fun _ _ _ _ _ => pts_nil) (fun _ _ _ _ _ => (pe_mk G_Saying (hr.mono (by omega)) (by rfl) pass0 (pa_cons pe_str (pa_cons (pe_fK DK_f_named_p2 (hr.mono (by omega)) (by rfl) pass0 (pa_cons pe_str (pa_cons (pv 5) pa_nil)) pk_nil) (pa_cons (pe_fK DK_f_named_p1 (hr.mono (by omega)) (by rfl) pass0 (pa_cons pe_str pa_nil) pk_nil) pa_nil))))))
    (pss_cons (ps_expr (pe_gbm (K := K) rfl PySem.F.plainAttrs_list PySem.F.slot_list_extend PySem.F.type_list_extend mt_extend (pv 4) (pa_cons (pe_lc (own := _) rfl sc_f_time_sayings.nd (pi_gl (K := K) rfl (pv 1)) (blkOk_by (own := [("k", 3)]) (N := ["program", "rows", "stops", "k", "found", "j", "twice"]) (sc := defScope s_f_time_sayings) (by decide +kernel)) (fun _ _ _ _ _ => (pg_name (i := 3) sc_f_time_sayings.nd rfl (by first | exact Or.inl rfl | exact Or.inr rfl))) (fun _ _ _ _ _ => pts_nil) (fun _ _ _ _ _ => (pe_mk G_Saying (hr.mono (by omega)) (by rfl) pass0 (pa_cons pe_str (pa_cons (pe_fK DK_f_named_p2 (hr.mono (by omega)) (by rfl) pass0 (pa_cons pe_str (pa_cons (pv 3) pa_nil)) pk_nil) (pa_cons (pe_fK DK_f_named_p1 (hr.mono (by omega)) (by rfl) pass0 (pa_cons pe_str pa_nil) pk_nil) pa_nil)))))) pa_nil)))
    (pss_cons (ps_expr (pe_gbm (K := K) rfl PySem.F.plainAttrs_list PySem.F.slot_list_append PySem.F.type_list_append mt_append (pv 4) (pa_cons (pe_mk G_Saying (hr.mono (by omega)) (by rfl) pass0 (pa_cons pe_str (pa_cons (pe_f D_f_sum_of (hr.mono (by omega)) (by rfl) pass0 (pa_cons (pe_f D_f_rows_named (hr.mono (by omega)) (by rfl) pass0 (pa_cons (pv 1) pa_nil)) pa_nil)) (pa_cons (pe_fK DK_f_named_p1 (hr.mono (by omega)) (by rfl) pass0 (pa_cons pe_str pa_nil) pk_nil) pa_nil)))) pa_nil)))
    (pss_cons (ps_expr (pe_gbm (K := K) rfl PySem.F.plainAttrs_list PySem.F.slot_list_append PySem.F.type_list_append mt_append (pv 4) (pa_cons (pe_mk G_Saying (hr.mono (by omega)) (by rfl) pass0 (pa_cons pe_str (pa_cons (pe_glob (v := .ref a_ONE) rfl c_ONE rfl) (pa_cons (pe_fK DK_f_named_p2 (hr.mono (by omega)) (by rfl) pass0 (pa_cons pe_str (pa_cons pe_int pa_nil)) pk_nil) pa_nil)))) pa_nil)))
    (pss_cons (ps_expr (pe_gbm (K := K) rfl PySem.F.plainAttrs_list PySem.F.slot_list_append PySem.F.type_list_append mt_append (pv 4) (pa_cons (pe_mk G_Saying (hr.mono (by omega)) (by rfl) pass0 (pa_cons pe_str (pa_cons (pe_f D_f_sum_of (hr.mono (by omega)) (by rfl) pass0 (pa_cons (pe_f D_f_rows_named (hr.mono (by omega)) (by rfl) pass0 (pa_cons (pv 2) pa_nil)) pa_nil)) (pa_cons (pe_f D_f_power_at (hr.mono (by omega)) (by rfl) pass0 (pa_cons (pe_fK DK_f_named_p1 (hr.mono (by omega)) (by rfl) pass0 (pa_cons pe_str pa_nil) pk_nil) pa_nil)) pa_nil)))) pa_nil)))
    (pss_cons (ps_for PassesOwn.never rfl (pi_gl (K := K) rfl (pe_f D_f_asked_boxes (hr.mono (by omega)) (by rfl) pass0 (pa_cons (pv 0) pa_nil))) (pg_name (i := 5) sc_f_time_sayings.nd rfl (by first | exact Or.inl rfl | exact Or.inr rfl)) (pss_cons (ps_set (i := 6) sc_f_time_sayings.nd rfl (by first | exact Or.inl rfl | exact Or.inr rfl) (pe_tup (pa_cons pe_str (pa_cons (pe_glob (v := .ref a_TWO) rfl c_TWO rfl) (pa_cons (pe_fK DK_f_named_p2 (hr.mono (by omega)) (by rfl) pass0 (pa_cons pe_str (pa_cons (pv 5) pa_nil)) pk_nil) pa_nil)))))
    (pss_one (ps_expr (pe_gbm (K := K) rfl PySem.F.plainAttrs_list PySem.F.slot_list_append PySem.F.type_list_append mt_append (pv 4) (pa_cons (pe_mk G_Saying (hr.mono (by omega)) (by rfl) pass0 (pa_cons pe_str (pa_cons (pe_tup (pa_cons pe_str (pa_cons (pe_fK DK_f_named_p2 (hr.mono (by omega)) (by rfl) pass0 (pa_cons pe_str (pa_cons (pv 5) pa_nil)) pk_nil) (pa_cons (pv 6) pa_nil)))) (pa_cons (pe_tup (pa_cons pe_str (pa_cons (pe_fK DK_f_named_p1 (hr.mono (by omega)) (by rfl) pass0 (pa_cons pe_str pa_nil) pk_nil) (pa_cons (pe_fK DK_f_named_p1 (hr.mono (by omega)) (by rfl) pass0 (pa_cons pe_str pa_nil) pk_nil) pa_nil)))) pa_nil)))) pa_nil))))))
    (pss_one (ps_ret (pv 4))))))))))), ?_⟩)
  · obtain ⟨_, _, _, rfl, _⟩ := h
    rfl
  · obtain ⟨v, m, rs, rfl, hv, hm, ho, hl, k⟩ := h
    try dsimp only [cxOf, Cx.nox, Cx.wish]
    change (_ : L2.TS) _ [some (v), none, none, none, none, none, none] _
    refine w_start ?_
    have h1 : TmAt K H (.num 1) (.ref a_ONE) := ⟨_, rfl, .inr fun H => d_ONE H⟩
    have h2 : TmAt K H (.num 2) (.ref a_TWO) := ⟨_, rfl, .inr fun H => d_TWO H⟩
    repeat' (tm_at "rs")
    rename_i L H1 nL s1 g1
    refine lcLs (xs := nV (List.range rs.length)) (fun D i H' => H' D = some (.lst (nV (stpK rs i))) ∧ Sm H1 H') ?_ ?_ ?_ ?_
    · exact fun D H' nD sm hD => ⟨hD, sm⟩
    · rintro D i H' nD hi ⟨hD, sm⟩
      exact sq_of (sm _ _ g1)
    · rintro D i x H' nD hi ⟨hD, sm⟩
      obtain ⟨hin, rfl⟩ := nVr_get hi
      have hsl : (nV (stpK rs i)).length ≤ 100 := by rw [nV_len]; have := stpK_len rs i; omega
      obtain ⟨r, hr⟩ : ∃ r, rs[i]? = some r := ⟨_, List.getElem?_eq_some_iff.mpr ⟨hin, rfl⟩⟩
      rw [stpK_succ, hr]
      repeat' (tm_at "rs")
      rename_i t us ht hR p hp
      rcases r with j | j | ⟨j, g⟩ | g | _
      · have hp3 : H' p = some (.tup [.str "raise", .int (j : Int)]) := hp
        clear hp
        rw [if_neg (fun h => by cases h), List.append_nil]
        repeat' (tm_at "rs")
        exact ⟨hD, sm⟩
      · have hp3 : H' p = some (.tup [.str "lower", .int (j : Int)]) := hp
        clear hp
        rw [if_neg (fun h => by cases h), List.append_nil]
        repeat' (tm_at "rs")
        exact ⟨hD, sm⟩
      · have hp3 : H' p = some (.tup [.str "if", .int (j : Int), .int (g : Int)]) := hp
        clear hp
        rw [if_neg (fun h => by cases h), List.append_nil]
        repeat' (tm_at "rs")
        exact ⟨hD, sm⟩
      · have hp3 : H' p = some (.tup [.str "go", .int (g : Int)]) := hp
        clear hp
        rw [if_neg (fun h => by cases h), List.append_nil]
        repeat' (tm_at "rs")
        exact ⟨hD, sm⟩
      · have hp3 : H' p = some (.tup [.str "stop"]) := hp
        clear hp
        rw [if_pos rfl]
        repeat' (tm_at "rs")
        rename_i H3 k3 g3
        exact ⟨by rw [nV_app]; exact g3, by tm_at "rsm"⟩
    · rintro D H' nD ⟨hD, sm⟩
      rw [nV_len, List.length_range] at hD
      have g1' := sm _ _ g1
      repeat' (tm_at "rs")
      refine lcR (fun F i H2 => ∃ xs, H2 F = some (.lst xs) ∧ xs.length = i ∧ SysAt K H2 xs ((List.range i).map fun j => undr (.name (nmS "r" j)) (.name "m")) ∧ Sm H' H2) ?_ ?_ ?_
      · exact fun F H2 nF sm hF => ⟨[], hF, rfl, .nil, sm⟩
      · rintro F i H2 nF hi ⟨xs, hF, hxl, hx, sm2⟩
        have hx100 : xs.length ≤ 100 := by omega
        repeat' (tm_at "rs")
        refine call_nmJ (Int.zero_add _) (by omega) (by decide) (fun q H3 nq sq tq => ?_)
        have hF3 := sq _ _ hF
        repeat' (tm_at "rs")
        rename_i H5 n5 s5 hsy H6 k6 g6
        have e5 : Sm H2 H5 := by tm_at "rsm"
        refine ⟨_, g6, by rw [List.length_append, hxl]; rfl, ?_, by tm_at "rsm"⟩
        rw [map_rs]
        exact ((hx.sm e5).one hsy).kpL (e5 _ _ hF) k6
      · rintro F H2 nF ⟨xs, hF, hxl, hx, sm2⟩
        rw [Int.toNat_natCast] at hx hxl
        have g12 := sm2 _ _ g1'
        repeat' (tm_at "rs")
        refine lcLs (xs := nV (List.range rs.length)) (fun G i H3 => ∃ ys, H3 G = some (.lst ys) ∧ ys.length = i ∧ SysAt K H3 ys ((List.range i).map fun j => undr (.name (nmS "l" j)) (.name "i")) ∧ Sm H2 H3) ?_ ?_ ?_ ?_
        · exact fun G H3 nG sm hG => ⟨[], hG, rfl, .nil, sm⟩
        · rintro G i H3 nG hi ⟨ys, hG, hyl, hy, sm3⟩
          exact sq_of (sm3 _ _ g12)
        · rintro G i x H3 nG hi ⟨ys, hG, hyl, hy, sm3⟩
          obtain ⟨hin, rfl⟩ := nVr_get hi
          have hy100 : ys.length ≤ 100 := by omega
          repeat' (tm_at "rs")
          rename_i H5 n5 s5 hsy H6 k6 g6
          have e5 : Sm H3 H5 := by tm_at "rsm"
          refine ⟨_, g6, by rw [List.length_append, hyl]; rfl, ?_, by tm_at "rsm"⟩
          rw [map_rs]
          exact ((hy.sm e5).one hsy).kpL (e5 _ _ hG) k6
        · rintro G H3 nG ⟨ys, hG, hyl, hy, sm3⟩
          rw [nV_len, List.length_range] at hyl hy
          have LF : L ≠ F := ne_of_none g1' nF
          have DF : D ≠ F := ne_of_none hD nF
          repeat' (tm_at "rs")
          rename_i H4 zs k4 g4 hz zl
          have gL4 : H4 L = some (.lst (nV (List.range rs.length))) := k4 _ _ LF (sm3 _ _ g12)
          refine call_rowsNamed gL4 (by rw [List.length_range]; omega) (fun n hn => by have := List.mem_range.mp hn; omega) (fun X xs5 H5 nX s5 gX hX => ?_)
          repeat' (tm_at "rs")
          refine call_sumOf gX hX (fun lv H6 s6 hlv => ?_)
          repeat' (tm_at "rs")
          refine call_nmJ (j := 0) rfl (by omega) (by decide) (fun q0 H7 nq0 sq0 tq0 => ?_)
          repeat' (tm_at "rs")
          rename_i H8 ws k8 g8 hws wl
          have gD8 : H8 D = some (.lst (nV (stpK rs rs.length))) := by tm_at "rlk"
          have hsk := stpK_len rs rs.length
          refine call_rowsNamed gD8 (by omega) (fun n hn => by have := List.mem_range.mp (List.mem_filter.mp hn).1; omega) (fun Y ys5 H9 nY s9 gY hY => ?_)
          repeat' (tm_at "rs")
          refine call_sumOf gY hY (fun sv H10 s10 hsv => ?_)
          repeat' (tm_at "rs")
          rename_i H11 us k11 g11 hus ul
          have hv11 : PrgAt K H11 v m rs := by tm_at "rpg"
          have h2' : TmAt K H11 (.num 2) (.ref a_TWO) := ⟨_, rfl, .inr fun H => d_TWO H⟩
          have fin : Kp F H H11 := by tm_at "rkp"
          refine call_askedBoxes hv11 ho hl (fun AL H12 nA s12 gA => ?_)
          have hasl := asked_le m rs
          have AF : AL ≠ F := fun z => by rw [z, g11] at nA; cases nA
          have gF12 := s12 _ _ g11
          have hus12 := hus.sm s12
          clear hsv hlv hus hws hz gX gY hX hY gD8 gL4 g8 g4 hy hx hG hF h1 h2
          clear g1' hD
          obtain ⟨B, hB⟩ : ∃ B : List SyW, B = (List.range m).map (fun j => undr (.name (nmS "r" j)) (.name "m")) ++ (List.range rs.length).map (fun k => undr (.name (nmS "l" k)) (.name "i")) ++ [same (sumT (lsT (List.range rs.length))) (.name "i")] ++ [undr (.num 1) (.name (nmS "l" 0))] ++ [same (sumT (lsT (stpK rs rs.length))) (pwAt (.name "s"))] := ⟨_, rfl⟩
          have hus13 : SysAt K H12 us B := by rw [hB]; exact hus12
          clear hus12
          repeat' (tm_at "rs")
          refine loopL (xs := nV (asked m rs)) (fun i σ' H' => ∃ (x5 x6 : Option V) (zs : List V), σ' = [some v, some (.ref L), some (.ref D), none, some (.ref F), x5, x6] ∧ Kp F H12 H' ∧ H' F = some (.lst zs) ∧ zs.length = us.length + i ∧ SysAt K H' zs (B ++ ((asked m rs).take i).map fun j => same (.op "plus" (.name (nmS "e" j)) (.op "times" (.num 2) (.name (nmS "r" j)))) (.op "times" (.name "q") (.name "i")))) ⟨_, _, us, rfl, Kp.refl _, gF12, rfl, by rw [List.take_zero, List.map_nil, List.append_nil]; exact hus13⟩ ?_ ?_ ?_
          · rintro i σ' H' hi ⟨x5, x6, zs, rfl, kF, gF, zl, hz⟩
            exact sq_of (kF _ _ AF gA)
          · rintro i x σ' H' hi ⟨x5, x6, zs, rfl, kF, gF, zl, hz⟩
            obtain ⟨j, hj, rfl⟩ := nV_gt hi
            have hil := (List.getElem?_eq_some_iff.mp hj).1
            have hjm : j < m := List.mem_range.mp (List.mem_filter.mp (List.mem_of_getElem? hj)).1
            have htk : (asked m rs).take (i + 1) = (asked m rs).take i ++ [j] := by rw [List.take_succ, hj]; rfl
            rw [htk, List.map_append, ← List.append_assoc]
            have h2 : TmAt K H' (.num 2) (.ref a_TWO) := ⟨_, rfl, .inr fun H => d_TWO H⟩
            have hzl : zs.length ≤ 100 := by omega
            repeat' (tm_at "rs")
            rename_i H9 ws k9 g9 hws wl
            exact ⟨_, _, ws, rfl, by tm_at "rkp", g9, by omega, hws⟩
          · rintro σ' H' ⟨x5, x6, zs, rfl, kF, gF, zl, hz⟩
            rw [nV_len, List.take_length, hB] at hz
            have kk : Kp F H H' := fin.trans ((Kp.of s12).trans kF)
            have nF0 : H F = none := by tm_at "rfr"
            repeat' (tm_at "rs")
            exact k _ zs _ nF0 (sm_mut (Same.refl _) nF0 kk) gF hz
/-! ### row_sayings -/
theorem ok_f_row_sayings {f : Addr} {fd : FuncData} (F : Fun K "row_sayings" "row_sayings" s_f_row_sayings f fd) {C_Saying : Addr}
    (G_Saying : DefM P w K mg base CX0 "Saying" 1 ["self", "word", "left", "right"] (sp_f_Saying__init K) C_Saying)
    (SC_Saying : ClsN K "Saying" C_Saying ["word", "left", "right"])
    (D_f_goal_of : Def P w K mg base CX0 "goal_of" 1 ["program", "k"] (sp_f_goal_of K))
    (DK_f_named_p2 : DefK P w K mg base CX0 "named" 1 ["letter", "number"] [] gk_f_named_p2 (sp_f_named K))
    (DK_f_named_p1 : DefK P w K mg base CX0 "named" 1 ["letter", "number"] [] gk_f_named_p1 (sp_f_named K)) :
    FnG P w K mg base CX0 3 f fd ["program", "k"] (sp_f_row_sayings K) := by
  refine okG F sc_f_row_sayings (fun vs H Q E h => ?_) (fun cdv A outer s H vs Q E hr h => ⟨_, (pss_cons (ps_set (i := 2) sc_f_row_sayings.nd rfl (by first | exact Or.inl rfl | exact Or.inr rfl) (pe_ix (ix_g (K := K) rfl) (pe_fld (pv 0) rfl) (pv 1) (fun _ _ => rfl)))
    (pss_cons (ps_if (pt_cmpR (op_gEq (K := K) rfl hr.units) (pe_ix (ix_g (K := K) rfl) (pv 2) pe_int (fun _ _ => rfl)) pe_str (nomark _)) (pss_one (ps_ret (pe_lst pa_nil))) pss_nil)
    (pss_cons (ps_set (i := 3) sc_f_row_sayings.nd rfl (by first | exact Or.inl rfl | exact Or.inr rfl) (pe_tup (pa_cons pe_str (pa_cons (pe_fK DK_f_named_p1 (hr.mono (by omega)) (by rfl) pass0 (pa_cons pe_str pa_nil) pk_nil) (pa_cons (pe_fK DK_f_named_p2 (hr.mono (by omega)) (by rfl) pass0 (pa_cons pe_str (pa_cons (pv 1) pa_nil)) pk_nil) pa_nil)))))
    (pss_cons (ps_if (pt_cmpR (op_gEq (K := K) rfl hr.units) (pe_ix (ix_g (K := K) rfl) (pv 2) pe_int (fun _ _ => rfl)) pe_str (nomark _)) (pss_one (ps_ret (pe_lst (pa_cons (pe_mk G_Saying (hr.mono (by omega)) (by rfl) pass0 (pa_cons pe_str (pa_cons (pv 3) (pa_cons (pe_fK DK_f_named_p2 (hr.mono (by omega)) (by rfl) pass0 (pa_cons pe_str (pa_cons (pe_f D_f_goal_of (hr.mono (by omega)) (by rfl) pass0 (pa_cons (pv 0) (pa_cons (pv 1) pa_nil))) pa_nil)) pk_nil) pa_nil)))) pa_nil)))) pss_nil)
    (pss_cons (ps_set (i := 4) sc_f_row_sayings.nd rfl (by first | exact Or.inl rfl | exact Or.inr rfl) (pe_fK DK_f_named_p2 (hr.mono (by omega)) (by rfl) pass0 (pa_cons pe_str (pa_cons (pe_op (op_gAdd (K := K) rfl) (pv 1) pe_int) pa_nil)) pk_nil))
    (pss_cons (ps_if (PW.pt (pw_or (pt_cmpR (op_gNe (K := K) rfl hr.units) (pe_ix (ix_g (K := K) rfl) (pv 2) pe_int (fun _ _ => rfl)) pe_str (nomark _)) (pw_or1 (pt_cmpR (op_gEq (K := K) rfl hr.units) (pe_f D_f_goal_of (hr.mono (by omega)) (by rfl) pass0 (pa_cons (pv 0) (pa_cons (pv 1) pa_nil))) (pe_op (op_gAdd (K := K) rfl) (pv 1) pe_int) (nomark _))))) (pss_one (ps_ret (pe_lst (pa_cons (pe_mk G_Saying (hr.mono (by omega)) (by rfl) pass0 (pa_cons pe_str (pa_cons (pv 3) (pa_cons (pv 4) pa_nil)))) pa_nil)))) pss_nil)
    (pss_cons (ps_set (i := 5) sc_f_row_sayings.nd rfl (by first | exact Or.inl rfl | exact Or.inr rfl) (pe_tup (pa_cons pe_str (pa_cons (pe_fK DK_f_named_p2 (hr.mono (by omega)) (by rfl) pass0 (pa_cons pe_str (pa_cons (pe_f D_f_goal_of (hr.mono (by omega)) (by rfl) pass0 (pa_cons (pv 0) (pa_cons (pv 1) pa_nil))) pa_nil)) pk_nil) (pa_cons (pv 4) pa_nil)))))
    (pss_one (ps_ret (pe_lst (pa_cons (pe_mk G_Saying (hr.mono (by omega)) (by rfl) pass0 (pa_cons pe_str (pa_cons (pv 3) (pa_cons (pv 5) pa_nil)))) (pa_cons (pe_mk G_Saying (hr.mono (by omega)) (by rfl) pass0 (pa_cons pe_str (pa_cons (pv 3) (pa_cons (pe_tup (pa_cons pe_str (pa_cons (pv 4) (pa_cons (pe_fK DK_f_named_p2 (hr.mono (by omega)) (by rfl) pass0 (pa_cons pe_str (pa_cons (pe_ix (ix_g (K := K) rfl) (pv 2) pe_int (fun _ _ => rfl)) pa_nil)) pk_nil) pa_nil)))) pa_nil)))) pa_nil)))))))))))), ?_⟩)
  · obtain ⟨_, _, _, _, _, rfl, _⟩ := h
    rfl
  · obtain ⟨v, m, j, rs, r, rfl, hv, hj, hm, ho, hl, k⟩ := h
    try dsimp only [cxOf, Cx.nox, Cx.wish]
    change (_ : L2.TS) _ [some (v), some (.int (j : Nat)), none, none, none, none] _
    refine w_start ?_
    have hj14 : j < rs.length := (List.getElem?_eq_some_iff.mp hj).1
    repeat' (tm_at "rs")
    rename_i t us ht hR p hp
    rcases r with i | i | ⟨i, g⟩ | g | _
    · have hp3 : H p = some (.tup [.str "raise", .int (i : Int)]) := hp
      have e : rowS rs j = [undr (.op "times" (.name "q") (.name (nmS "l" j))) (.name (nmS "l" (j + 1)))] := by unfold rowS; rw [hj]
      clear hp
      repeat' (tm_at "rs")
      refine call_nmJ (j := j + 1) rfl (by omega) (by decide) (fun q H2 nq sq tq => ?_)
      repeat' (tm_at "rs")
      exact k _ _ _ (by tm_at "rfr") (by tm_at "rsm") (by assumption) (by rw [e]; assumption)
    · have hp3 : H p = some (.tup [.str "lower", .int (i : Int)]) := hp
      have e : rowS rs j = [undr (.op "times" (.name "q") (.name (nmS "l" j))) (.name (nmS "l" (j + 1)))] := by unfold rowS; rw [hj]
      clear hp
      repeat' (tm_at "rs")
      refine call_nmJ (j := j + 1) rfl (by omega) (by decide) (fun q H2 nq sq tq => ?_)
      repeat' (tm_at "rs")
      exact k _ _ _ (by tm_at "rfr") (by tm_at "rsm") (by assumption) (by rw [e]; assumption)
    · have hp3 : H p = some (.tup [.str "if", .int (i : Int), .int (g : Int)]) := hp
      have hg : g < 14 := (ho _ (List.mem_of_getElem? hj)).2
      have hi5 : i < m := (ho _ (List.mem_of_getElem? hj)).1
      clear hp
      repeat' (tm_at "rs")
      refine call_nmJ (j := j + 1) rfl (by omega) (by decide) (fun q H2 nq sq tq => ?_)
      repeat' (tm_at "rs")
      show gEq K (.int (g : Int)) _ _ _
      repeat' (tm_at "rs")
      · rename_i ee _ _ _
        have ee2 : g = j + 1 := by omega
        have e : rowS rs j = [undr (.op "times" (.name "q") (.name (nmS "l" j))) (.name (nmS "l" (j + 1)))] := by unfold rowS; rw [hj]; exact if_pos ee2
        exact k _ _ _ (by tm_at "rfr") (by tm_at "rsm") (by assumption) (by rw [e]; assumption)
      · rename_i ee _ _
        have ee2 : ¬ g = j + 1 := by omega
        show sp_f_named K [_, .int (g : Int)] _ _ _
        repeat' (tm_at "rs")
        have e : rowS rs j = [undr (.op "times" (.name "q") (.name (nmS "l" j))) (.op "plus" (.name (nmS "l" g)) (.name (nmS "l" (j + 1)))), undr (.op "times" (.name "q") (.name (nmS "l" j))) (.op "plus" (.name (nmS "l" (j + 1))) (.name (nmS "e" i)))] := by unfold rowS; rw [hj]; exact if_neg ee2
        exact k _ _ _ (by tm_at "rfr") (by tm_at "rsm") (by assumption) (by rw [e]; assumption)
    · have hp3 : H p = some (.tup [.str "go", .int (g : Int)]) := hp
      have hg : g < 14 := ho _ (List.mem_of_getElem? hj)
      have e : rowS rs j = [undr (.op "times" (.name "q") (.name (nmS "l" j))) (.name (nmS "l" g))] := by unfold rowS; rw [hj]
      clear hp
      repeat' (tm_at "rs")
      show sp_f_named K [_, .int (g : Int)] _ _ _
      repeat' (tm_at "rs")
      exact k _ _ _ (by tm_at "rfr") (by tm_at "rsm") (by assumption) (by rw [e]; assumption)
    · have hp3 : H p = some (.tup [.str "stop"]) := hp
      have e : rowS rs j = [] := by unfold rowS; rw [hj]
      clear hp
      repeat' (tm_at "rs")
      exact k _ _ _ (by tm_at "rfr") (by tm_at "rsm") (by assumption) (by rw [e]; exact .nil)
/-! ### moves_of -/
theorem ok_f_moves_of {f : Addr} {fd : FuncData} (F : Fun K "moves_of" "moves_of" s_f_moves_of f fd)
    (m_enumerate : mg "enumerate" = none) :
    FnG P w K mg base CX0 1 f fd ["program", "j", "word"] (sp_f_moves_of K) := by
  refine okG F sc_f_moves_of (fun vs H Q E h => ?_) (fun cdv A outer s H vs Q E hr h => ⟨_, (pss_one (ps_ret (pe_lc (own := _) rfl sc_f_moves_of.nd (pi_enT (by rfl) m_enumerate (pa_cons (pe_fld (pv 0) rfl) pa_nil)) (blkOk_by (own := [("k", 3), ("row", 4)]) (N := ["program", "j", "word", "k", "row"]) (sc := defScope s_f_moves_of) (by decide +kernel)) (fun _ _ _ _ _ => (pg_gt (K := K) (n := 2) rfl rfl (pgs_cons (pg_name (i := 3) sc_f_moves_of.nd rfl (by first | exact Or.inl rfl | exact Or.inr rfl)) (pgs_cons (pg_name (i := 4) sc_f_moves_of.nd rfl (by first | exact Or.inl rfl | exact Or.inr rfl)) pgs_nil)))) (fun _ _ _ _ _ => pts_one (pt_cmpR (op_gEq (K := K) rfl hr.units) (pv 4) (pe_tup (pa_cons (pv 2) (pa_cons (pv 1) pa_nil))) (nomark _))) (fun _ _ _ _ _ => (pv 3))))), ?_⟩)
  · obtain ⟨_, _, _, _, _, rfl, _⟩ := h
    rfl
  · obtain ⟨v, j, m, w', rs, rfl, hv, hw, hl, k⟩ := h
    try dsimp only [cxOf, Cx.nox, Cx.wish]
    change (_ : L2.TS) _ [some (v), some (.int (j : Nat)), some (.str w'), none, none] _
    refine w_start ?_
    repeat' (tm_at "rs")
    rename_i t us hT hR
    have hul := paired_len hR
    refine lcEt (xs := us) (fun D i H' => H' D = some (.lst (nV (plc rs (mvR w' j) i))) ∧ Sm H H') ?_ ?_ ?_ ?_
    · exact fun D H' nD sm hD => ⟨hD, sm⟩
    · exact fun D i H' nD hi h => st_of (h.2 _ _ hT)
    · rintro D i x T H1 H2 nD hi hx ⟨hD, hs⟩ nT sT gT
      obtain ⟨r, hri, p, rfl, hp⟩ := paired_get hR hx
      have hp2 := sT _ _ (hs _ _ hp)
      have hD2 := sT _ _ hD
      have hpl : (nV (plc rs (mvR w' j) i)).length ≤ 100 := by
        rw [nV_len]
        have := List.length_filter_le (fun k => decide (rs[k]? = some (mvR w' j))) (List.range i)
        rw [List.length_range] at this
        unfold plc
        omega
      repeat' (tm_at "rs")
      rename_i q H3 n3 s3 g3
      have g3' : H3 q = some (.tup (mvR w' j).vs) := by rw [mv_vs hw]; exact g3
      refine w_eqRow (s3 _ _ hp2) g3' ?_
      repeat' (tm_at "rs")
      · rename_i e H4 k4 g4
        refine ⟨?_, by tm_at "rsm"⟩
        rw [plc_succ, if_pos (by rw [hri, e]), nV_app]
        exact g4
      · rename_i e
        refine ⟨?_, by tm_at "rsm"⟩
        rw [plc_succ, if_neg (by rw [hri]; exact fun z => e (Option.some.inj z)), List.append_nil]
        exact s3 _ _ hD2
    · rintro D H' nD ⟨hD, hs⟩
      rw [hul] at hD
      repeat' (tm_at "rs")
      exact k D H' nD hs hD
/-! ### box_saying -/
theorem ok_f_box_saying {f : Addr} {fd : FuncData} (F : Fun K "box_saying" "box_saying" s_f_box_saying f fd) {C_Saying : Addr}
    (D_f_sum_of : Def P w K mg base CX0 "sum_of" 1 ["terms"] (sp_f_sum_of K))
    (G_Saying : DefM P w K mg base CX0 "Saying" 1 ["self", "word", "left", "right"] (sp_f_Saying__init K) C_Saying)
    (SC_Saying : ClsN K "Saying" C_Saying ["word", "left", "right"])
    (D_f_rows_named : Def P w K mg base CX0 "rows_named" 2 ["rows"] (sp_f_rows_named K))
    (D_f_moves_of : Def P w K mg base CX0 "moves_of" 1 ["program", "j", "word"] (sp_f_moves_of K))
    (D_f_top : Def P w K mg base CX0 "top" 3 [] (sp_f_top K))
    (DK_f_named_p1 : DefK P w K mg base CX0 "named" 1 ["letter", "number"] [] gk_f_named_p1 (sp_f_named K))
    (DK_f_named_p2 : DefK P w K mg base CX0 "named" 1 ["letter", "number"] [] gk_f_named_p2 (sp_f_named K)) :
    FnG P w K mg base CX0 4 f fd ["program", "j"] (sp_f_box_saying K) := by
  refine okG F sc_f_box_saying (fun vs H Q E h => ?_) (fun cdv A outer s H vs Q E hr h => ⟨_, (pss_cons (ps_par (i := 2) (j := 3) rfl sc_f_box_saying.nd rfl rfl (by decide) rfl rfl (pa_cons (pe_fK DK_f_named_p1 (hr.mono (by omega)) (by rfl) pass0 (pa_cons pe_str pa_nil) pk_nil) (pa_cons (pe_fK DK_f_named_p2 (hr.mono (by omega)) (by rfl) pass0 (pa_cons pe_str (pa_cons (pv 1) pa_nil)) pk_nil) pa_nil)) (by rfl))
    (pss_cons (ps_set (i := 4) sc_f_box_saying.nd rfl (by first | exact Or.inl rfl | exact Or.inr rfl) (pe_f D_f_sum_of (hr.mono (by omega)) (by rfl) pass0 (pa_cons (pe_f D_f_rows_named (hr.mono (by omega)) (by rfl) pass0 (pa_cons (pe_f D_f_moves_of (hr.mono (by omega)) (by rfl) pass0 (pa_cons (pv 0) (pa_cons (pv 1) (pa_cons pe_str pa_nil)))) pa_nil)) pa_nil)))
    (pss_cons (ps_set (i := 5) sc_f_box_saying.nd rfl (by first | exact Or.inl rfl | exact Or.inr rfl) (pe_f D_f_sum_of (hr.mono (by omega)) (by rfl) pass0 (pa_cons (pe_f D_f_rows_named (hr.mono (by omega)) (by rfl) pass0 (pa_cons (pe_f D_f_moves_of (hr.mono (by omega)) (by rfl) pass0 (pa_cons (pv 0) (pa_cons (pv 1) (pa_cons pe_str pa_nil)))) pa_nil)) pa_nil)))
    (pss_cons (ps_set (i := 6) sc_f_box_saying.nd rfl (by first | exact Or.inl rfl | exact Or.inr rfl) (pe_tup (pa_cons pe_str (pa_cons (pe_tup (pa_cons pe_str (pa_cons (pv 2) (pa_cons (pe_tup (pa_cons pe_str (pa_cons (pv 3) (pa_cons (pv 4) pa_nil)))) pa_nil)))) (pa_cons (pe_fK DK_f_named_p2 (hr.mono (by omega)) (by rfl) pass0 (pa_cons pe_str (pa_cons (pv 1) pa_nil)) pk_nil) pa_nil)))))
    (pss_cons (ps_set (i := 7) sc_f_box_saying.nd rfl (by first | exact Or.inl rfl | exact Or.inr rfl) (pe_tup (pa_cons pe_str (pa_cons (pe_tup (pa_cons pe_str (pa_cons (pv 3) (pa_cons (pe_tup (pa_cons pe_str (pa_cons (pv 2) (pa_cons (pv 5) pa_nil)))) pa_nil)))) (pa_cons (pe_tup (pa_cons pe_str (pa_cons (pe_f0 D_f_top (hr.mono (by omega)) (by rfl) pass0) (pa_cons (pe_fK DK_f_named_p2 (hr.mono (by omega)) (by rfl) pass0 (pa_cons pe_str (pa_cons (pv 1) pa_nil)) pk_nil) pa_nil)))) pa_nil)))))
    (pss_one (ps_ret (pe_mk G_Saying (hr.mono (by omega)) (by rfl) pass0 (pa_cons pe_str (pa_cons (pv 6) (pa_cons (pv 7) pa_nil))))))))))), ?_⟩)
  · obtain ⟨_, _, _, _, rfl, _⟩ := h
    rfl
  · obtain ⟨v, m, j, rs, rfl, hv, hj, hm, hl, k⟩ := h
    try dsimp only [cxOf, Cx.nox, Cx.wish]
    change (_ : L2.TS) _ [some (v), some (.int (j : Nat)), none, none, none, none, none, none] _
    refine w_start ?_
    repeat' (tm_at "rs")
    rename_i q0 H1 n1 s1 tq r0 H2 n2 s2 tr
    refine call_movesOf ((hv.sm s1).sm s2) (.inl rfl) hl (fun P H3 nP s3 gP => ?_)
    have plt : ∀ r, ∀ n ∈ plc rs r rs.length, n < 1000 := fun r n hn => by
      have := List.mem_range.mp (List.mem_filter.mp hn).1
      omega
    have e1 : mvR (Str.ofString "raise") j = .up j := if_pos rfl
    have e2 : mvR (Str.ofString "lower") j = .dn j := if_neg (by decide +kernel)
    rw [e1] at gP
    repeat' (tm_at "rs")
    refine call_rowsNamed gP (Nat.le_trans (plc_len _ _ _) (by omega)) (plt _) (fun X xs H4 nX s4 gX hX => ?_)
    repeat' (tm_at "rs")
    refine call_sumOf gX hX (fun rv H5 s5 hrv => ?_)
    repeat' (tm_at "rs")
    have s05 : Sm H H5 := s1.trans (s2.trans (s3.trans (s4.trans s5)))
    have tq5 := tq.sm (s2.trans (s3.trans (s4.trans s5)))
    have tr5 := tr.sm (s3.trans (s4.trans s5))
    refine call_movesOf (hv.sm s05) (.inr rfl) hl (fun P2 H6 nP2 s6 gP2 => ?_)
    rw [e2] at gP2
    repeat' (tm_at "rs")
    refine call_rowsNamed gP2 (Nat.le_trans (plc_len _ _ _) (by omega)) (plt _) (fun X2 xs2 H7 nX2 s7 gX2 hX2 => ?_)
    repeat' (tm_at "rs")
    refine call_sumOf gX2 hX2 (fun lv H8 s8 hlv => ?_)
    have s58 := s6.trans (s7.trans s8)
    have s08 := s05.trans s58
    have tq8 := tq5.sm s58
    have tr8 := tr5.sm s58
    have hrv8 := hrv.sm s58
    clear s1 s2 s3 s4 s5 s6 s7 s8 s58 s05 tq tr tq5 tr5 hrv
    repeat' (tm_at "rs")
    exact k _ _ (by tm_at "rsm") (by assumption)
/-! ### sayings_of -/
theorem ok_f_sayings_of {f : Addr} {fd : FuncData} (F : Fun K "sayings_of" "sayings_of" s_f_sayings_of f fd) {C_Program : Addr}
    (D_f_base_sayings : Def P w K mg base CX0 "base_sayings" 4 ["program"] (sp_f_base_sayings K))
    (D_f_time_sayings : Def P w K mg base CX0 "time_sayings" 3 ["program"] (sp_f_time_sayings K))
    (D_f_row_sayings : Def P w K mg base CX0 "row_sayings" 3 ["program", "k"] (sp_f_row_sayings K))
    (D_f_box_saying : Def P w K mg base CX0 "box_saying" 4 ["program", "j"] (sp_f_box_saying K))
    (M_Program_len : DefO P w K mg base CX0 C_Program "__len__" 1 ["self"] (sp_f_Program__len K))
    (SC_Program : ClsN K "Program" C_Program ["boxes", "rows"])
    (OC_Program : ClsO K C_Program)
    (m_range : mg "range" = none)
    (m_len : mg "len" = none) :
    FnG P w K mg base CX0 5 f fd ["program"] (sp_f_sayings_of K) := by
  refine okG F sc_f_sayings_of (fun vs H Q E h => ?_) (fun cdv A outer s H vs Q E hr h => ⟨_, (pss_cons (ps_set (i := 1) sc_f_sayings_of.nd rfl (by first | exact Or.inl rfl | exact Or.inr rfl) (pe_op (op_gAdd (K := K) rfl) (pe_f D_f_base_sayings (hr.mono (by omega)) (by rfl) pass0 (pa_cons (pv 0) pa_nil)) (pe_f D_f_time_sayings (hr.mono (by omega)) (by rfl) pass0 (pa_cons (pv 0) pa_nil))))
    (pss_cons (ps_for PassesOwn.never rfl (pi_range1 (by rfl) m_range (pa_cons (pe_callB (cr_lenO M_Program_len (hr.mono (by omega)) pass0) (by rfl) m_len PySem.boot_len (pa_cons (pv 0) pa_nil)) pa_nil)) (pg_name (i := 2) sc_f_sayings_of.nd rfl (by first | exact Or.inl rfl | exact Or.inr rfl)) (pss_one (ps_expr (pe_gbm (K := K) rfl PySem.F.plainAttrs_list PySem.F.slot_list_extend PySem.F.type_list_extend mt_extend (pv 1) (pa_cons (pe_f D_f_row_sayings (hr.mono (by omega)) (by rfl) pass0 (pa_cons (pv 0) (pa_cons (pv 2) pa_nil))) pa_nil)))))
    (pss_one (ps_ret (pe_op (op_gAdd (K := K) rfl) (pv 1) (pe_lc (own := _) rfl sc_f_sayings_of.nd (pi_range1 (by rfl) m_range (pa_cons (pe_fld (pv 0) rfl) pa_nil)) (blkOk_by (own := [("j", 3)]) (N := ["program", "found", "k", "j"]) (sc := defScope s_f_sayings_of) (by decide +kernel)) (fun _ _ _ _ _ => (pg_name (i := 3) sc_f_sayings_of.nd rfl (by first | exact Or.inl rfl | exact Or.inr rfl))) (fun _ _ _ _ _ => pts_nil) (fun _ _ _ _ _ => (pe_f D_f_box_saying (hr.mono (by omega)) (by rfl) pass0 (pa_cons (pv 0) (pa_cons (pv 3) pa_nil)))))))))), ?_⟩)
  · obtain ⟨_, _, _, rfl, _⟩ := h
    rfl
  · obtain ⟨v, m, rs, rfl, hv, hm, ho, hl, k⟩ := h
    try dsimp only [cxOf, Cx.nox, Cx.wish]
    change (_ : L2.TS) _ [some (v), none, none, none] _
    refine w_start ?_
    repeat' (tm_at "rs")
    refine call_baseS hv hm hl (fun A as H1 nA s1 gA hA => ?_)
    repeat' (tm_at "rs")
    refine call_timeS (hv.sm s1) hm ho hl (fun B bs H2 nB s2 gB hB => ?_)
    have hA2 := hA.sm s2
    have gA2 := s2 _ _ gA
    have la := hA.len
    have lb := hB.len
    have l1 : as.length = 6 := la
    have l2 : bs.length ≤ 100 := by rw [lb, timeS_len]; have := asked_le m rs; omega
    repeat' (tm_at "rs")
    rename_i F H3 fs nF s3 gF hF lF
    have hv3 := ((hv.sm s1).sm s2).sm s3
    refine loopR (fun i σ' H' => ∃ (x2 : Option V) (zs : List V), σ' = [some v, some (.ref F), x2, none] ∧ Kp F H3 H' ∧ H' F = some (.lst zs) ∧ zs.length ≤ 106 + 2 * i ∧ SysAt K H' zs ((baseS m rs.length ++ timeS m rs) ++ rowsS rs i)) ⟨_, fs, rfl, Kp.refl _, gF, by omega, by show SysAt K H3 fs (_ ++ []); rw [List.append_nil]; exact hF⟩ ?_ ?_
    · rintro i σ' H' hi ⟨x2, zs, rfl, kF, gF', zl, hz⟩
      rw [Int.toNat_natCast] at hi
      obtain ⟨r, hr⟩ : ∃ r, rs[i]? = some r := ⟨_, List.getElem?_eq_some_iff.mpr ⟨hi, rfl⟩⟩
      have hv4 : PrgAt K H' v m rs := hv3.kp gF kF
      rw [rowsS_succ, ← List.append_assoc]
      repeat' (tm_at "rs")
      rw [Int.zero_add]
      refine call_rowS hv4 hr hm (ho.up hl) hl (fun R ys H4 nR s4 gR hR => ?_)
      have ly := hR.len
      have ly2 := rowS_len rs i
      have gF4 := s4 _ _ gF'
      have hz4 := hz.sm s4
      have lz : zs.length + ys.length ≤ 10000 := by omega
      repeat' (tm_at "rs")
      rename_i H5 ws k5 g5 hws wl
      exact ⟨_, ws, rfl, by tm_at "rkp", g5, by omega, hws⟩
    · rintro σ' H' ⟨x2, zs, rfl, kF, gF', zl, hz⟩
      rw [Int.toNat_natCast] at hz zl
      have hv4 : PrgAt K H' v m rs := hv3.kp gF kF
      repeat' (tm_at "rs")
      refine lcR (fun G i H2 => ∃ xs, H2 G = some (.lst xs) ∧ xs.length = i ∧ SysAt K H2 xs ((List.range i).map (boxS rs)) ∧ Sm H' H2) ?_ ?_ ?_
      · exact fun G H2 nG sm hG => ⟨[], hG, rfl, .nil, sm⟩
      · rintro G i H2 nG hi ⟨xs, hG, hxl, hx, sm2⟩
        have hx100 : xs.length ≤ 100 := by omega
        have hv5 := hv4.sm sm2
        repeat' (tm_at "rs")
        rw [Int.zero_add]
        refine call_boxS hv5 (by omega) hm hl (fun q H3 sq hq => ?_)
        have hG3 := sq _ _ hG
        repeat' (tm_at "rs")
        rename_i H6 k6 g6
        refine ⟨_, g6, by rw [List.length_append, hxl]; rfl, ?_, by tm_at "rsm"⟩
        rw [map_rs]
        exact ((hx.sm sq).one hq).kpL hG3 k6
      · rintro G H2 nG ⟨xs, hG, hxl, hx, sm2⟩
        rw [Int.toNat_natCast] at hx hxl
        have gF2 := sm2 _ _ gF'
        have hz2 := hz.sm sm2
        repeat' (tm_at "rs")
        rename_i G' H7 ws n7 s7 g7 hws wl
        exact k _ ws _ (by tm_at "rfr") (by tm_at "rsm") g7 hws
/-! ### _law_asked -/
theorem ok_f_law_asked {f : Addr} {fd : FuncData} (F : Fun K "_law_asked" "_law_asked" s_f_law_asked f fd)
    (m_range : mg "range" = none)
    (m_enumerate : mg "enumerate" = none) :
    FnG P w K mg base CX0 1 f fd ["boxes", "rows"] (sp_f_law_asked K) := by
  refine okG F sc_f_law_asked (fun vs H Q E h => ?_) (fun cdv A outer s H vs Q E hr h => ⟨_, (pss_cons (ps_set (i := 2) sc_f_law_asked.nd rfl (by first | exact Or.inl rfl | exact Or.inr rfl) (pe_lst pa_nil))
    (pss_cons (ps_for PassesOwn.never rfl (pi_range1 (by rfl) m_range (pa_cons (pv 0) pa_nil)) (pg_name (i := 3) sc_f_law_asked.nd rfl (by first | exact Or.inl rfl | exact Or.inr rfl)) (pss_one (ps_if (pt_cmpR (op_gNe (K := K) rfl hr.units) (pe_lc (own := _) rfl sc_f_law_asked.nd (pi_enum (by rfl) m_enumerate (pa_cons (pv 1) pa_nil)) (blkOk_by (own := [("k", 4), ("row", 5)]) (N := ["boxes", "rows", "found", "j", "k", "row"]) (sc := defScope s_f_law_asked) (by decide +kernel)) (fun _ _ _ _ _ => (pg_gt (K := K) (n := 2) rfl rfl (pgs_cons (pg_name (i := 4) sc_f_law_asked.nd rfl (by first | exact Or.inl rfl | exact Or.inr rfl)) (pgs_cons (pg_name (i := 5) sc_f_law_asked.nd rfl (by first | exact Or.inl rfl | exact Or.inr rfl)) pgs_nil)))) (fun _ _ _ _ _ => pts_one (PW.pt (pw_and (pt_cmpR (op_gEq (K := K) rfl hr.units) (pe_slice (sl_gl (K := K) rfl) (pv 5) po_none (po_some pe_int)) (pe_tup (pa_cons pe_str (pa_cons (pv 3) pa_nil))) (nomark _)) (pw_and1 (pt_cmpR (op_gNe (K := K) rfl hr.units) (pe_ix (ix_g (K := K) rfl) (pv 5) pe_int (fun _ _ => rfl)) (pe_op (op_gAdd (K := K) rfl) (pv 4) pe_int) (nomark _)))))) (fun _ _ _ _ _ => (pv 4))) (pe_lst pa_nil) (nomark _)) (pss_one (ps_expr (pe_gbm (K := K) rfl PySem.F.plainAttrs_list PySem.F.slot_list_append PySem.F.type_list_append mt_append (pv 2) (pa_cons (pv 3) pa_nil)))) pss_nil)))
    (pss_one (ps_ret (pv 2))))), ?_⟩)
  · obtain ⟨_, _, _, _, rfl, _⟩ := h
    rfl
  · obtain ⟨m, p, us, rs, rfl, hp, hR, hm, hl, k⟩ := h
    try dsimp only [cxOf, Cx.nox, Cx.wish]
    change (_ : L2.TS) _ [some (.int (m : Nat)), some (.ref p), none, none, none, none] _
    refine w_start ?_
    repeat' (tm_at "rs")
    rename_i D H1 nD s1 gD
    have hp1 := s1 _ _ hp
    have nDp : p ≠ D := ne_of_none hp nD
    have hul : us.length = rs.length := paired_len hR
    refine loopR (fun j σ' H' => ∃ (x4 x5 x3 : Option V), σ' = [some (.int (m : Nat)), some (.ref p), some (.ref D), x3, x4, x5] ∧ Kp D H1 H' ∧ H' D = some (.lst (nV ((List.range j).filter fun j => askB rs j rs.length)))) ?_ ?_ ?_
    · exact ⟨_, _, _, rfl, Kp.refl _, gD⟩
    · rintro j σ' H' hj ⟨x4, x5, x3, rfl, hk, hD⟩
      have hpj := hk _ _ nDp hp1
      have tkj : Tk H1 H' := Tk.kp gD hk
      have hRj : RwsAt H' us rs := hR.tk ((Tk.sm s1).trans tkj)
      have hfl : ((List.range j).filter fun j => askB rs j rs.length).length ≤ 10 := by
        have := List.length_filter_le (fun j => askB rs j rs.length) (List.range j)
        rw [List.length_range] at this
        omega
      have hnl : (nV ((List.range j).filter fun j => askB rs j rs.length)).length ≤ 10 := by rw [nV_len]; exact hfl
      repeat' (tm_at "rs")
      refine lcEn (xs := us) (fun L i H2 => H2 L = some (.lst (nV ((List.range i).filter fun k => isAsk rs j k))) ∧ Sm H' H2) ?_ ?_ ?_ ?_
      · exact fun L H2 nL sm hL => ⟨hL, sm⟩
      · exact fun L i H2 nL hi h => sq_of (h.2 _ _ hpj)
      · rintro L i x T H2 H3 nL hi hx ⟨hL, hs⟩ nT sT gT
        obtain ⟨r, hri, q, rfl, hq⟩ := paired_get hRj hx
        have hq3 := sT _ _ (hs _ _ hq)
        have hL3 := sT _ _ hL
        have hll : (nV ((List.range i).filter fun k => isAsk rs j k)).length ≤ 100 := by
          rw [nV_len]
          have := List.length_filter_le (fun k => isAsk rs j k) (List.range i)
          rw [List.length_range] at this
          omega
        repeat' (tm_at "rs")
        rename_i b1 H4 s4 g4 b2 H5 n5 s5 g5
        have g5' : H5 b2 = some (.tup [.str "if", .int (j : Int)]) := by
          rw [Int.zero_add] at g5
          exact g5
        have hL5 := (s4.trans s5) _ _ hL3
        have hq5 := (s4.trans s5) _ _ hq3
        have s25 := sT.trans (s4.trans s5)
        refine w_eqAsk (s5 _ _ g4) g5' (fun c hc => ?_)
        rcases r with j' | j' | ⟨j', g'⟩ | g' | _
        · obtain rfl : c = false := hc
          repeat' (tm_at "rs")
          refine ⟨?_, hs.trans s25⟩
          rw [flt_succ, isAsk_no hri (by intro i g z; cases z), if_neg Bool.false_ne_true, List.append_nil]
          exact hL5
        · obtain rfl : c = false := hc
          repeat' (tm_at "rs")
          refine ⟨?_, hs.trans s25⟩
          rw [flt_succ, isAsk_no hri (by intro i g z; cases z), if_neg Bool.false_ne_true, List.append_nil]
          exact hL5
        · obtain rfl : c = decide (j' = j) := hc
          have hq6 : H5 q = some (.tup [.str "if", .int (j' : Int), .int (g' : Int)]) := hq5
          clear hq5
          repeat' (tm_at "rs")
          · rename_i e1 e2 H6 k6 g6
            refine ⟨?_, by tm_at "rsm"⟩
            rw [flt_succ, isAsk_br hri, decide_eq_true e1, decide_eq_true (p := g' ≠ i + 1) (by omega)]
            show H6 L = some (.lst (nV ((List.range i).filter (fun k => isAsk rs j k) ++ [i])))
            rw [nV_app]
            exact g6
          · rename_i e1 e2
            refine ⟨?_, hs.trans s25⟩
            rw [flt_succ, isAsk_br hri, decide_eq_false (p := g' ≠ i + 1) (by omega), Bool.and_false, if_neg Bool.false_ne_true, List.append_nil]
            exact hL5
          · rename_i e1
            refine ⟨?_, hs.trans s25⟩
            rw [flt_succ, isAsk_br hri, decide_eq_false e1, Bool.false_and, if_neg Bool.false_ne_true, List.append_nil]
            exact hL5
        · obtain rfl : c = false := hc
          repeat' (tm_at "rs")
          refine ⟨?_, hs.trans s25⟩
          rw [flt_succ, isAsk_no hri (by intro i g z; cases z), if_neg Bool.false_ne_true, List.append_nil]
          exact hL5
        · obtain rfl : c = false := hc
          repeat' (tm_at "rs")
          refine ⟨?_, hs.trans s25⟩
          rw [flt_succ, isAsk_no hri (by intro i g z; cases z), if_neg Bool.false_ne_true, List.append_nil]
          exact hL5
      · rintro L H2 nL ⟨hL, hs⟩
        rw [hul] at hL
        have hD2 := hs _ _ hD
        repeat' (tm_at "rs")
        · rename_i L2 H3 n3 s3 g3 e H4 k4 g4
          refine ⟨_, _, _, rfl, Kp.trans hk (Kp.trans (Kp.of (hs.trans s3)) k4), ?_⟩
          rw [flt_succ, if_pos (ask_ne.mp e), nV_app]
          rw [Int.zero_add] at g4
          exact g4
        · rename_i L2 H3 n3 s3 g3 e
          refine ⟨_, _, _, rfl, Kp.trans hk (Kp.of (hs.trans s3)), ?_⟩
          rw [flt_succ, if_neg (fun z => e (ask_ne.mpr z)), List.append_nil]
          exact s3 _ _ hD2
    · rintro σ' H' ⟨x4, x5, x3, rfl, hk, hD⟩
      repeat' (tm_at "rs")
      have sm := sm_mut s1 nD hk
      exact k D H' nD sm (by rw [Int.toNat_natCast] at hD; exact hD)
/-! ### _law_answer -/
theorem ok_f_law_answer {f : Addr} {fd : FuncData} (F : Fun K "_law_answer" "_law_answer" s_f_law_answer f fd)
    (D_f_law_asked : Def P w K mg base CX0 "_law_asked" 1 ["boxes", "rows"] (sp_f_law_asked K))
    (m_range : mg "range" = none)
    (m_sum : mg "sum" = none)
    (m_len : mg "len" = none)
    (m_dict : mg "dict" = none)
    (m_list : mg "list" = none)
    (m_str : mg "str" = none)
    (m_zip : mg "zip" = none)
    (m_enumerate : mg "enumerate" = none) :
    FnG P w K mg base CX0 2 f fd ["boxes", "rows", "begin", "stands", "c"] (sp_f_law_answer K) := by
  refine okG F sc_f_law_answer (fun vs H Q E h => ?_) (fun cdv A outer s H vs Q E hr h => ⟨_, (pss_cons (ps_set (i := 5) sc_f_law_answer.nd rfl (by first | exact Or.inl rfl | exact Or.inr rfl) (pe_op op_sub (pe_callB (call_gLen (K := K) rfl) (by rfl) m_len PySem.boot_len (pa_cons (pv 3) pa_nil)) pe_int))
    (pss_cons (ps_set (i := 6) sc_f_law_answer.nd rfl (by first | exact Or.inl rfl | exact Or.inr rfl) pe_dnewK)
    (pss_cons (ps_for PassesOwn.never rfl (pi_range1 (by rfl) m_range (pa_cons (pv 0) pa_nil)) (pg_name (i := 7) sc_f_law_answer.nd rfl (by first | exact Or.inl rfl | exact Or.inr rfl)) (pss_one (ps_dput (u_one hr.units) (pv 6) (pe_op (op_gAdd (K := K) rfl) pe_str (pe_callTy call_gStr2 (by rfl) m_str PyProof.Rows.boot_str (pa_cons (pv 7) pa_nil))) (pe_ix (ix_g (K := K) rfl) (pv 2) (pv 7) (fun _ _ => rfl)) rfl)))
    (pss_cons (ps_for PassesOwn.never rfl (pi_range1 (by rfl) m_range (pa_cons (pv 0) pa_nil)) (pg_name (i := 7) sc_f_law_answer.nd rfl (by first | exact Or.inl rfl | exact Or.inr rfl)) (pss_one (ps_dput (u_one hr.units) (pv 6) (pe_op (op_gAdd (K := K) rfl) pe_str (pe_callTy call_gStr2 (by rfl) m_str PyProof.Rows.boot_str (pa_cons (pv 7) pa_nil))) (pe_ix (ix_g (K := K) rfl) (pe_ix (ix_g (K := K) rfl) (pe_ix (ix_g (K := K) rfl) (pv 3) (pe_un un_neg pe_int) (fun _ _ => rfl)) pe_int (fun _ _ => rfl)) (pv 7) (fun _ _ => rfl)) rfl)))
    (pss_cons (ps_par (i := 8) (j := 9) rfl sc_f_law_answer.nd rfl rfl (by decide) rfl rfl (pa_cons (pe_op op_gShl pe_int (pe_op op_sub (pv 4) pe_int)) (pa_cons (pe_op op_gShl pe_int (pv 4)) pa_nil)) (by rfl))
    (pss_cons (ps_set (i := 10) sc_f_law_answer.nd rfl (by first | exact Or.inl rfl | exact Or.inr rfl) (pe_callB (cr_sum rfl) (by rfl) m_sum (by decide +kernel) (pa_cons (pe_lc (own := _) rfl sc_f_law_answer.nd (pi_range1 (by rfl) m_range (pa_cons (pe_op (op_gAdd (K := K) rfl) (pv 5) pe_int) pa_nil)) (blkOk_by (own := [("t", 11)]) (N := ["boxes", "rows", "begin", "stands", "c", "s", "found", "j", "h", "q", "i", "t", "some", "k", "contents", "stand"]) (sc := defScope s_f_law_answer) (by decide +kernel)) (fun _ _ _ _ _ => (pg_name (i := 11) sc_f_law_answer.nd rfl (by first | exact Or.inl rfl | exact Or.inr rfl))) (fun _ _ _ _ _ => pts_nil) (fun _ _ _ _ _ => (pe_op op_gShl pe_int (pe_op op_gMul (pv 4) (pv 11))))) pa_nil)))
    (pss_cons (ps_set (i := 12) sc_f_law_answer.nd rfl (by first | exact Or.inl rfl | exact Or.inr rfl) (pe_lst (pa_cons (pv 5) (pa_cons (pv 4) (pa_cons (pv 8) (pa_cons (pe_op op_sub (pe_op op_sub (pv 8) (pe_callB (cr_sum rfl) (by rfl) m_sum (by decide +kernel) (pa_cons (pv 2) pa_nil))) pe_int) (pa_cons (pv 9) (pa_cons (pe_op op_sub (pe_op op_sub (pv 9) (pe_callB (call_gLen (K := K) rfl) (by rfl) m_len PySem.boot_len (pa_cons (pv 1) pa_nil))) pe_int) (pa_cons (pv 10) (pa_cons (pe_op op_gMul (pe_op op_sub (pv 8) pe_int) (pv 10)) pa_nil))))))))))
    (pss_cons (ps_expr (pe_gbm (K := K) rfl PySem.F.plainAttrs_dict PySem.F.slot_dict_update PySem.F.type_dict_update mtd_update (pv 6) (pa_cons (pe_callTy (call_gDictP (K := K) rfl rfl) (by rfl) m_dict PyProof.Rows.boot_dict (pa_cons (pe_listZip (K := K) rfl rfl (by rfl) m_list (by rfl) m_zip (pa_cons (pe_lst (pa_cons pe_str (pa_cons pe_str (pa_cons pe_str (pa_cons pe_str (pa_cons pe_str (pa_cons pe_str (pa_cons pe_str (pa_cons pe_str pa_nil))))))))) (pa_cons (pv 12) pa_nil))) pa_nil)) pa_nil)))
    (pss_cons (ps_for PassesOwn.never rfl (pi_range1 (by rfl) m_range (pa_cons (pv 0) pa_nil)) (pg_name (i := 7) sc_f_law_answer.nd rfl (by first | exact Or.inl rfl | exact Or.inr rfl)) (pss_one (ps_dput (u_one hr.units) (pv 6) (pe_op (op_gAdd (K := K) rfl) pe_str (pe_callTy call_gStr2 (by rfl) m_str PyProof.Rows.boot_str (pa_cons (pv 7) pa_nil))) (pe_callB (cr_sum rfl) (by rfl) m_sum (by decide +kernel) (pa_cons (pe_lc (own := _) rfl sc_f_law_answer.nd (pi_enum (by rfl) m_enumerate (pa_cons (pv 3) pa_nil)) (blkOk_by (own := [("t", 11), ("k", 13), ("contents", 14)]) (N := ["boxes", "rows", "begin", "stands", "c", "s", "found", "j", "h", "q", "i", "t", "some", "k", "contents", "stand"]) (sc := defScope s_f_law_answer) (by decide +kernel)) (fun _ _ _ _ _ => (pg_gt (K := K) (n := 2) rfl rfl (pgs_cons (pg_name (i := 11) sc_f_law_answer.nd rfl (by first | exact Or.inl rfl | exact Or.inr rfl)) (pgs_cons (pg_gt (K := K) (n := 2) rfl rfl (pgs_cons (pg_name (i := 13) sc_f_law_answer.nd rfl (by first | exact Or.inl rfl | exact Or.inr rfl)) (pgs_cons (pg_name (i := 14) sc_f_law_answer.nd rfl (by first | exact Or.inl rfl | exact Or.inr rfl)) pgs_nil))) pgs_nil)))) (fun _ _ _ _ _ => pts_nil) (fun _ _ _ _ _ => (pe_op op_gShl (pe_ix (ix_g (K := K) rfl) (pv 14) (pv 7) (fun _ _ => rfl)) (pe_op op_gMul (pv 4) (pv 11))))) pa_nil)) rfl)))
    (pss_cons (ps_for PassesOwn.never rfl (pi_range1 (by rfl) m_range (pa_cons (pe_callB (call_gLen (K := K) rfl) (by rfl) m_len PySem.boot_len (pa_cons (pv 1) pa_nil)) pa_nil)) (pg_name (i := 13) sc_f_law_answer.nd rfl (by first | exact Or.inl rfl | exact Or.inr rfl)) (pss_one (ps_dput (u_one hr.units) (pv 6) (pe_op (op_gAdd (K := K) rfl) pe_str (pe_callTy call_gStr2 (by rfl) m_str PyProof.Rows.boot_str (pa_cons (pv 13) pa_nil))) (pe_callB (cr_sum rfl) (by rfl) m_sum (by decide +kernel) (pa_cons (pe_lc (own := _) rfl sc_f_law_answer.nd (pi_enum (by rfl) m_enumerate (pa_cons (pv 3) pa_nil)) (blkOk_by (own := [("t", 11), ("stand", 15)]) (N := ["boxes", "rows", "begin", "stands", "c", "s", "found", "j", "h", "q", "i", "t", "some", "k", "contents", "stand"]) (sc := defScope s_f_law_answer) (by decide +kernel)) (fun _ _ _ _ _ => (pg_gt (K := K) (n := 2) rfl rfl (pgs_cons (pg_name (i := 11) sc_f_law_answer.nd rfl (by first | exact Or.inl rfl | exact Or.inr rfl)) (pgs_cons (pg_name (i := 15) sc_f_law_answer.nd rfl (by first | exact Or.inl rfl | exact Or.inr rfl)) pgs_nil)))) (fun _ _ _ _ _ => pts_one (pt_cmpR (op_gEq (K := K) rfl hr.units) (pe_ix (ix_g (K := K) rfl) (pv 15) pe_int (fun _ _ => rfl)) (pv 13) (nomark _))) (fun _ _ _ _ _ => (pe_op op_gShl pe_int (pe_op op_gMul (pv 4) (pv 11))))) pa_nil)) rfl)))
    (pss_cons (ps_for PassesOwn.never rfl (pi_gl (K := K) rfl (pe_f D_f_law_asked (hr.mono (by omega)) (by rfl) pass0 (pa_cons (pv 0) (pa_cons (pv 1) pa_nil)))) (pg_name (i := 7) sc_f_law_answer.nd rfl (by first | exact Or.inl rfl | exact Or.inr rfl)) (pss_one (ps_dput (u_one hr.units) (pv 6) (pe_op (op_gAdd (K := K) rfl) pe_str (pe_callTy call_gStr2 (by rfl) m_str PyProof.Rows.boot_str (pa_cons (pv 7) pa_nil))) (pe_op op_sub (pe_op op_gMul (pv 9) (pv 10)) (pe_op op_gMul pe_int (pe_dget (u_one hr.units) (pv 6) (pe_op (op_gAdd (K := K) rfl) pe_str (pe_callTy call_gStr2 (by rfl) m_str PyProof.Rows.boot_str (pa_cons (pv 7) pa_nil))) (fun _ _ => rfl)))) rfl)))
    (pss_one (ps_ret (pv 6)))))))))))))), ?_⟩)
  · obtain ⟨_, _, _, _, _, _, _, _, _, _, _, _, _, rfl, _⟩ := h
    rfl
  · obtain ⟨m, c, p, b, q, us, xs, rs, bs, ys, ss, k0, pre, rfl, hp, hR, hg, hb, hbl, hq, hX, hss, hsl, hsn, c1, c2, hbd, k⟩ := h
    try dsimp only [cxOf, Cx.nox, Cx.wish]
    change (_ : L2.TS) _ [some (.int (m : Nat)), some (.ref p), some (.ref b), some (.ref q), some (.int (c : Nat)), none, none, none, none, none, none, none, none, none, none, none] _
    refine w_start ?_
    have hm5 := hg.b5
    have hm1 := hg.b1
    have hl14 := hg.len
    have hX2 : SdL H xs (pre ++ [(k0, ys)]) := hss ▸ hX
    obtain ⟨xs0, x0, hxe, hxs0, hx0⟩ := paired_last hX2
    obtain ⟨p0, q0, rfl, hp0, hq0⟩ := id hx0
    have hatL : atI xs (-1) = some (V.ref p0) := by rw [hxe]; exact atI_last xs0 (V.ref p0)
    have hxl : xs.length = ss.length := paired_len hX
    have hpre : ss.length = pre.length + 1 := by rw [hss, List.length_append]; rfl
    have hbV : (nV bs).length = m := by rw [nV_len, hbl]
    have hyl : ys.length = m := hsl (k0, ys) (by rw [hss]; simp)
    have hyV : (nV ys).length = m := by rw [nV_len, hyl]
    repeat' (tm_at "rs")
    rename_i D H1 nD sD gD
    have rng : ∀ (f : Nat → Key × V) (i : Nat), (List.range (i + 1)).map f = (List.range i).map f ++ [f i] := fun f i => by rw [List.range_succ, List.map_append]; rfl
    have smk : ∀ H', Kp D H1 H' → Sm H H' := fun H' hk x o h => hk x o (fun e => by rw [e, nD] at h; cases h) (sD _ _ h)
    refine loopR (fun i σ' H' => ∃ (x7 : Option V), σ' = [some (.int (m : Nat)), some (.ref p), some (.ref b), some (.ref q), some (.int (c : Nat)), some (.int ((xs.length : Int) - 1)), some (.ref D), x7, none, none, none, none, none, none, none, none] ∧ Kp D H1 H' ∧ H' D = some (.dK (mergeK [] (anX i bs)))) ?_ ?_ ?_
    · exact ⟨_, rfl, Kp.refl _, gD⟩
    · rintro i σ' H' hi ⟨x7, rfl, hk, hd⟩
      have hi2 : i < m := by simpa using hi
      have hb2 := smk _ hk _ _ hb
      have hkl : (mergeK [] (anX i bs)).length ≤ 100 := by
        have h1 := merge_len (anX i bs) []
        have e : (anX i bs).length = i := by unfold anX; rw [List.length_map, List.length_range]
        have e0 : ([] : List (Key × V)).length = 0 := rfl
        omega
      have hat := nV_at (cs := bs) (j := i) (by omega)
      rw [show (0 + (i : Int)) = (i : Int) from Int.zero_add _]
      repeat' (tm_at "rs")
      rename_i H3 k3 g3
      refine ⟨_, rfl, Kp.trans hk k3, ?_⟩
      rw [g3]
      unfold anX
      rw [rng, merge_snoc]
      rfl
    · rintro σ' H' ⟨x7, rfl, hk, hd⟩
      rw [show (((m : Nat) : Int)).toNat = m from rfl] at hd
      repeat' (tm_at "rs")
      refine loopR (fun i σ' H' => ∃ (x7 : Option V), σ' = [some (.int (m : Nat)), some (.ref p), some (.ref b), some (.ref q), some (.int (c : Nat)), some (.int ((xs.length : Int) - 1)), some (.ref D), x7, none, none, none, none, none, none, none, none] ∧ Kp D H1 H' ∧ H' D = some (.dK (mergeK [] (anX m bs ++ anY i ys)))) ?_ ?_ ?_
      · refine ⟨_, rfl, hk, ?_⟩
        rw [hd]
        show _ = some (HO.dK (mergeK [] (anX m bs ++ [])))
        rw [List.append_nil]
      · rintro i σ' H' hi ⟨x7, rfl, hk, hd⟩
        have hi2 : i < m := by simpa using hi
        have hq2 := smk _ hk _ _ hq
        have hp2 := smk _ hk _ _ hp0
        have hy2 := smk _ hk _ _ hq0
        have hkl : (mergeK [] (anX m bs ++ anY i ys)).length ≤ 100 := by
          have h1 := merge_len (anX m bs ++ anY i ys) []
          have e : (anX m bs ++ anY i ys).length = m + i := by unfold anX anY; rw [List.length_append, List.length_map, List.length_range, List.length_map, List.length_range]
          have e0 : ([] : List (Key × V)).length = 0 := rfl
          omega
        have hat := nV_at (cs := ys) (j := i) (by omega)
        rw [show (0 + (i : Int)) = (i : Int) from Int.zero_add _]
        repeat' (tm_at "rs")
        rename_i H3 k3 g3
        refine ⟨_, rfl, Kp.trans hk k3, ?_⟩
        rw [g3]
        unfold anY
        rw [rng, ← List.append_assoc, merge_snoc]
        rfl
      · rintro σ' H' ⟨x7, rfl, hk, hd⟩
        rw [show (((m : Nat) : Int)).toNat = m from rfl] at hd
        have hsE : ((xs.length : Int) - 1 + 1).toNat = ss.length := by omega
        have hhE : ((c : Int) - 1).toNat = c - 1 := by omega
        repeat' (tm_at "rs")
        rename_i hv hv1 hv2 hv3 hv4 hv5 qv qv1 qv2 qv3 qv4 qv5
        rw [hsE]
        rw [hhE] at hv1
        rw [show ((c : Nat) : Int).toNat = c from rfl] at qv1
        refine lcR (fun A i H2 => H2 A = some (.lst (((List.range i).map fun t => (2 : Int) ^ (c * t)).map V.int)) ∧ Sm H' H2) (fun A H2 nA sm hA => ⟨hA, sm⟩) ?_ ?_
        · rintro A i H2 nA hi ⟨hA, sm⟩
          have hct : (c : Int) * (i : Int) ≤ 1000000 := by
            have h1 : c * i ≤ 1000 * 402 := Nat.mul_le_mul c2 (by omega)
            have h2 : ((c * i : Nat) : Int) ≤ ((1000 * 402 : Nat) : Int) := by exact_mod_cast h1
            rw [Int.natCast_mul] at h2
            omega
          have hct0 : 0 ≤ (c : Int) * (i : Int) := Int.mul_nonneg (by omega) (by omega)
          rw [show (0 + (i : Int)) = (i : Int) from Int.zero_add _]
          have hz : (((List.range i).map fun t => (2 : Int) ^ (c * t)).map V.int).length ≤ 1000 := by rw [List.length_map, List.length_map, List.length_range]; omega
          repeat' (tm_at "rs")
          rename_i tv tv1 tv2 tv3 tv4 tv5 H3 k3 g3
          refine ⟨?_, by tm_at "rsm"⟩
          rw [g3, List.range_succ, List.map_append, List.map_append, tv1, show ((c : Int) * (i : Int)).toNat = c * i by rw [← Int.natCast_mul]; rfl]
          rfl
        · rintro A H2 nA ⟨hA, sm⟩
          have hk2 : Kp D H1 H2 := fun x o hx e => sm _ _ (hk x o hx e)
          have hd2 := sm _ _ hd
          have hb2 := smk _ hk2 _ _ hb
          have hp2 := smk _ hk2 _ _ hp
          repeat' (tm_at "rs")
          refine w_sum (ns := bs.map fun x : Nat => (x : Int)) (sq_of (by rw [hb2, nV_int])) ?_
          rw [sum_cast]
          repeat' (tm_at "rs")
          have hcn : c * ss.length ≤ 1000000 := Nat.le_trans (Nat.mul_le_mul c2 hsn) (by decide)
          rw [show (((List.range ss.length).map fun t => (2 : Int) ^ (c * t)).sum : Int) = iS c ss.length from rfl]
          have hv6 : (hv - 1).natAbs < 2 ^ 1001 := by
            rw [hv1]
            exact Nat.lt_of_lt_of_le (pow_less c) (Nat.pow_le_pow_right (by decide) (by omega))
          refine w_mulI (iS_cm c1 hcn hv6) ?_
          repeat' (tm_at "rs")
          rename_i S H3 nS s3 gS N H4 nN s4 gN
          have gS4 := s4 _ _ gS
          have kq : (an8 c ss.length rs.length bs.sum).map (fun q => kV q.1) = [V.str (Str.ofString "s"), V.str (Str.ofString "c"), V.str (Str.ofString "h"), V.str (Str.ofString "d"), V.str (Str.ofString "q"), V.str (Str.ofString "g"), V.str (Str.ofString "i"), V.str (Str.ofString "m")] := rfl
          have vq : (an8 c ss.length rs.length bs.sum).map (fun q => q.2) = [V.int (↑xs.length - 1), V.int ↑c, V.int hv, V.int (hv - ↑bs.sum - 1), V.int qv, V.int (qv - ↑us.length - 1), V.int (iS c ss.length), V.int ((hv - 1) * iS c ss.length)] := by
            rw [hxl, paired_len hR, hv1, qv1]
            rfl
          refine w_lzE (kvs := an8 c ss.length rs.length bs.sum) (sq_of (by rw [gN, kq])) (sq_of (by rw [gS4, vq])) (fun Z ts H5 nZ s5 gZ pZ => ?_)
          repeat' (tm_at "rs")
          refine w_dictP (sq_of gZ) (paired_mono (fun _ _ e => st_of e) pZ) (fun E2 H6 nE s6 gE => ?_)
          rw [an8_self] at gE
          repeat' (tm_at "rs")
          have hd5 := (s5 _ _  (s4 _ _ (s3 _ _ hd2)))
          have hd6 := s6 _ _ hd5
          have hDE : D ≠ E2 := fun e => by rw [e, nE] at hd5; cases hd5
          refine w_dupd hd6 gE hDE ?_ (fun H7 k7 g7 => ?_)
          · have h1 := merge_len (anX m bs ++ anY m ys) []
            have e : (anX m bs ++ anY m ys).length = m + m := by unfold anX anY; rw [List.length_append, List.length_map, List.length_range, List.length_map, List.length_range]
            have e0 : ([] : List (Key × V)).length = 0 := rfl
            have e8 : (an8 c ss.length rs.length bs.sum).length = 8 := rfl
            omega
          rw [← merge_app] at g7
          obtain ⟨B, hB⟩ : ∃ B, B = anX m bs ++ anY m ys ++ an8 c ss.length rs.length bs.sum := ⟨_, rfl⟩
          have hBl : B.length = m + m + 8 := by
            rw [hB, List.length_append, List.length_append]
            unfold anX anY
            rw [List.length_map, List.length_range, List.length_map, List.length_range]
            rfl
          rw [← hB] at g7
          have hk7 : Kp D H1 H7 := fun x o hx e => k7 x o hx (s6 _ _ (s5 _ _ (s4 _ _ (s3 _ _ (hk2 x o hx e)))))
          repeat' (tm_at "rs")
          refine loopR (fun i σ' H' => ∃ (x7 : Option V), σ' = [some (.int (m : Nat)), some (.ref p), some (.ref b), some (.ref q), some (.int (c : Nat)), some (.int ((xs.length : Int) - 1)), some (.ref D), x7, some (.int hv), some (.int qv), some (.int (iS c ss.length)), none, some (.ref S), none, none, none] ∧ Kp D H1 H' ∧ H' D = some (.dK (mergeK [] (B ++ (List.range i).map fun j => kvE (nmS "r" j) (rS c ss j))))) ?_ ?_ ?_
          · refine ⟨_, rfl, hk7, ?_⟩
            rw [g7]
            show _ = some (HO.dK (mergeK [] (B ++ [])))
            rw [List.append_nil]
          · rintro i σ' H8 hi ⟨x7, rfl, hk8, hd8⟩
            have hi2 : i < m := by simpa using hi
            have hq8 := smk _ hk8 _ _ hq
            have hX8 := hX.tk (Tk.sm (smk _ hk8))
            have hkl : (mergeK [] (B ++ (List.range i).map fun j => kvE (nmS "r" j) (rS c ss j))).length ≤ 100 := by
              have h1 := merge_len (B ++ (List.range i).map fun j => kvE (nmS "r" j) (rS c ss j)) []
              rw [List.length_append, List.length_map, List.length_range] at h1
              have e0 : ([] : List (Key × V)).length = 0 := rfl
              omega
            rw [show (0 + (i : Int)) = (i : Int) from Int.zero_add _]
            repeat' (tm_at "rs")
            refine lcEn (xs := xs) (fun A t H9 => H9 A = some (.lst (((List.range t).map fun t => (cell ss t i : Int) * 2 ^ (c * t)).map V.int)) ∧ Sm H8 H9) (fun A H9 nA sm hA => ⟨hA, sm⟩) (fun A t H9 nA ht h => sq_of (h.2 _ _ hq8)) ?_ ?_
            · rintro A t x T H9 H10 nA ht hx ⟨hA, sm9⟩ nT s10 gT
              obtain ⟨s, hs, u, v, rfl, gu, gv⟩ := paired_get hX8 hx
              have gu' := s10 _ _ (sm9 _ _ gu)
              have gv' := s10 _ _ (sm9 _ _ gv)
              have hA' := s10 _ _ hA
              have hsm := List.mem_of_getElem? hs
              have hat := nV_at (cs := s.2) (j := i) (by rw [hsl s hsm]; exact hi2)
              have hct : (c : Int) * (t : Int) ≤ 1000000 := by
                have h1 : c * t ≤ 1000 * 402 := Nat.mul_le_mul c2 (by omega)
                have h2 : ((c * t : Nat) : Int) ≤ ((1000 * 402 : Nat) : Int) := by exact_mod_cast h1
                rw [Int.natCast_mul] at h2
                omega
              have hct0 : 0 ≤ (c : Int) * (t : Int) := Int.mul_nonneg (by omega) (by omega)
              have hz : (((List.range t).map fun t => (cell ss t i : Int) * 2 ^ (c * t)).map V.int).length ≤ 1000 := by rw [List.length_map, List.length_map, List.length_range]; omega
              have hil : i < s.2.length := by rw [hsl s hsm]; exact hi2
              have hcb : s.2.getD i 0 ≤ 2 ^ 100 := hbd s hsm _ (by rw [List.getD_eq_getElem?_getD, List.getElem?_eq_getElem hil]; exact List.getElem_mem _)
              repeat' (tm_at "rs")
              refine w_shlI (shl_cell hcb hct0 hct) ?_
              refine w_lcEnd hA' (Nat.lt_of_le_of_lt hz (by decide)) (fun H11 k11 g11 => ⟨?_, by tm_at "rsm"⟩)
              rw [g11, List.range_succ, List.map_append, List.map_append, show ((c : Int) * (t : Int)).toNat = c * t by rw [← Int.natCast_mul]; rfl]
              have hce : cell ss t i = s.2.getD i 0 := by unfold cell; rw [hs]
              rw [List.map_singleton, List.map_singleton, hce]
            · rintro A H9 nA ⟨hA, sm9⟩
              have hd9 := sm9 _ _ hd8
              rw [show (((List.range xs.length).map fun t => (cell ss t i : Int) * 2 ^ (c * t)).map V.int) = ((List.range ss.length).map fun t => (cell ss t i : Int) * 2 ^ (c * t)).map V.int by rw [hxl]] at hA
              repeat' (tm_at "rs")
              rename_i H10 k10 g10
              refine ⟨_, rfl, fun x o hx e => k10 x o hx (sm9 _ _ (hk8 x o hx e)), ?_⟩
              rw [g10, rng, ← List.append_assoc, merge_snoc]
              rfl
          · rintro σ' H8 ⟨x7, rfl, hk8, hd8⟩
            rw [show (((m : Nat) : Int)).toNat = m from rfl] at hd8
            have hp8 := smk _ hk8 _ _ hp
            have hul : us.length = rs.length := paired_len hR
            rw [show (List.range m).map (fun j => kvE (nmS "r" j) (rS c ss j)) = anR m c ss from rfl] at hd8
            have hCl : (B ++ anR m c ss).length = m + m + 8 + m := by
              unfold anR
              rw [List.length_append, hBl, List.length_map, List.length_range]
            repeat' (tm_at "rs")
            refine loopR (fun i σ' H' => ∃ (x13 : Option V), σ' = [some (.int (m : Nat)), some (.ref p), some (.ref b), some (.ref q), some (.int (c : Nat)), some (.int ((xs.length : Int) - 1)), some (.ref D), x7, some (.int hv), some (.int qv), some (.int (iS c ss.length)), none, some (.ref S), x13, none, none] ∧ Kp D H1 H' ∧ H' D = some (.dK (mergeK [] (B ++ anR m c ss ++ (List.range i).map fun k => kvE (nmS "l" k) (lS c ss k))))) ?_ ?_ ?_
            · refine ⟨_, rfl, hk8, ?_⟩
              rw [hd8]
              show _ = some (HO.dK (mergeK [] (_ ++ [])))
              rw [List.append_nil]
            · rintro i σ' H9 hi ⟨x13, rfl, hk9, hd9⟩
              have hi2 : i < rs.length := by
                rw [← hul]
                simpa using hi
              have hq9 := smk _ hk9 _ _ hq
              have hX9 := hX.tk (Tk.sm (smk _ hk9))
              have hkl : (mergeK [] (B ++ anR m c ss ++ (List.range i).map fun k => kvE (nmS "l" k) (lS c ss k))).length ≤ 100 := by
                have h1 := merge_len (B ++ anR m c ss ++ (List.range i).map fun k => kvE (nmS "l" k) (lS c ss k)) []
                rw [List.length_append, List.length_map, List.length_range, hCl] at h1
                have e0 : ([] : List (Key × V)).length = 0 := rfl
                omega
              rw [show (0 + (i : Int)) = (i : Int) from Int.zero_add _]
              repeat' (tm_at "rs")
              refine lcEn (xs := xs) (fun A t H10 => H10 A = some (.lst ((((List.range t).filter (atR ss i)).map fun t => (2 : Int) ^ (c * t)).map V.int)) ∧ Sm H9 H10) (fun A H10 nA sm hA => ⟨hA, sm⟩) (fun A t H10 nA ht h => sq_of (h.2 _ _ hq9)) ?_ ?_
              · rintro A t x T H10 H11 nA ht hx ⟨hA, sm9⟩ nT s10 gT
                obtain ⟨s, hs, u, v, rfl, gu, gv⟩ := paired_get hX9 hx
                have gu' := s10 _ _ (sm9 _ _ gu)
                have gv' := s10 _ _ (sm9 _ _ gv)
                have hA' := s10 _ _ hA
                have hct : (c : Int) * (t : Int) ≤ 1000000 := by
                  have h1 : c * t ≤ 1000 * 402 := Nat.mul_le_mul c2 (by omega)
                  have h2 : ((c * t : Nat) : Int) ≤ ((1000 * 402 : Nat) : Int) := by exact_mod_cast h1
                  rw [Int.natCast_mul] at h2
                  omega
                have hct0 : 0 ≤ (c : Int) * (t : Int) := Int.mul_nonneg (by omega) (by omega)
                have hz : ((((List.range t).filter (atR ss i)).map fun t => (2 : Int) ^ (c * t)).map V.int).length ≤ 1000 := by
                  have h1 := List.length_filter_le (atR ss i) (List.range t)
                  rw [List.length_range] at h1
                  rw [List.length_map, List.length_map]
                  omega
                have hat : atR ss i t = decide (s.1 = i) := by unfold atR; rw [hs]
                repeat' (tm_at "rs")
                · rename_i tE tv tv1 tv2 tv3 tv4 tv5 H12 k12 g12
                  refine ⟨?_, by tm_at "rsm"⟩
                  rw [g12, List.range_succ, List.filter_append, List.map_append, List.map_append, tv1, show ((c : Int) * (t : Int)).toNat = c * t by rw [← Int.natCast_mul]; rfl, filt1, hat, if_pos (decide_eq_true (show s.1 = i by omega))]
                  rfl
                · rename_i tE
                  refine ⟨?_, by tm_at "rsm"⟩
                  rw [hA', List.range_succ, List.filter_append, filt1, hat, if_neg (fun h => tE (by rw [of_decide_eq_true h])), List.append_nil]
              · rintro A H10 nA ⟨hA, sm9⟩
                have hd10 := sm9 _ _ hd9
                rw [show ((((List.range xs.length).filter (atR ss i)).map fun t => (2 : Int) ^ (c * t)).map V.int) = (((List.range ss.length).filter (atR ss i)).map fun t => (2 : Int) ^ (c * t)).map V.int by rw [hxl]] at hA
                repeat' (tm_at "rs")
                rename_i H11 k10 g10
                refine ⟨_, rfl, fun x o hx e => k10 x o hx (sm9 _ _ (hk9 x o hx e)), ?_⟩
                rw [g10, rng, ← List.append_assoc, merge_snoc]
                rfl
            · rintro σ' H9 ⟨x13, rfl, hk9, hd9⟩
              rw [show (((us.length : Nat) : Int)).toNat = rs.length by omega] at hd9
              rw [show (List.range rs.length).map (fun k => kvE (nmS "l" k) (lS c ss k)) = anL rs.length c ss from rfl] at hd9
              have hp9 := smk _ hk9 _ _ hp
              have hR9 := hR.tk (Tk.sm (smk _ hk9))
              have hDl : (B ++ anR m c ss ++ anL rs.length c ss).length = m + m + 8 + m + rs.length := by
                unfold anL
                rw [List.length_append, hCl, List.length_map, List.length_range]
              repeat' (tm_at "rs")
              refine call_lawAsked hp9 hR9 (by omega) (by omega) (fun A H10 nA s10 gA => ?_)
              have hd10 := s10 _ _ hd9
              have hDA : A ≠ D := fun e => by rw [e, hd9] at nA; cases nA
              have hk10 : Kp D H1 H10 := fun x o hx e => s10 _ _ (hk9 x o hx e)
              repeat' (tm_at "rs")
              have hal : (asked m rs).length ≤ m := asked_len
              refine loopL (xs := nV (asked m rs)) (fun i σ' H' => ∃ (x7 : Option V), σ' = [some (.int (m : Nat)), some (.ref p), some (.ref b), some (.ref q), some (.int (c : Nat)), some (.int ((xs.length : Int) - 1)), some (.ref D), x7, some (.int hv), some (.int qv), some (.int (iS c ss.length)), none, some (.ref S), x13, none, none] ∧ Kp D H1 H' ∧ H' A = some (.lst (nV (asked m rs))) ∧ H' D = some (.dK (mergeK [] (B ++ anR m c ss ++ anL rs.length c ss ++ ((asked m rs).take i).map fun j => kvE (nmS "e" j) (2 ^ c * iS c ss.length - 2 * rS c ss j))))) ?_ ?_ ?_ ?_
              · refine ⟨_, rfl, hk10, gA, ?_⟩
                rw [hd10]
                show _ = some (HO.dK (mergeK [] (_ ++ [])))
                rw [List.append_nil]
              · rintro i σ' H' hi ⟨x7, rfl, hk, hA, hd⟩
                exact sq_of hA
              · rintro i x σ' H11 hi ⟨x7, rfl, hk11, hA11, hd11⟩
                obtain ⟨n, hn, rfl⟩ := nV_gt hi
                have hil := (List.getElem?_eq_some_iff.mp hn).1
                have hnm : n < m := asked_lt n (List.mem_of_getElem? hn)
                have hkl : (mergeK [] (B ++ anR m c ss ++ anL rs.length c ss ++ ((asked m rs).take i).map fun j => kvE (nmS "e" j) (2 ^ c * iS c ss.length - 2 * rS c ss j))).length ≤ 100 := by
                  have h1 := merge_len (B ++ anR m c ss ++ anL rs.length c ss ++ ((asked m rs).take i).map fun j => kvE (nmS "e" j) (2 ^ c * iS c ss.length - 2 * rS c ss j)) []
                  rw [List.length_append, List.length_map, List.length_take, hDl] at h1
                  have e0 : ([] : List (Key × V)).length = 0 := rfl
                  omega
                have hv11 : valV (mergeK [] (B ++ anR m c ss ++ anL rs.length c ss ++ ((asked m rs).take i).map fun j => kvE (nmS "e" j) (2 ^ c * iS c ss.length - 2 * rS c ss j))) (.inr (nmS "r" n)) = some (.int (rS c ss n)) := by
                  rw [List.append_assoc]
                  refine merge_rE hnm (by omega) (fun q hq => ?_)
                  rcases List.mem_append.mp hq with h | h
                  · exact anL_ne q h
                  · exact anE_ne q h
                have hq6 : qv.natAbs < 2 ^ 1001 := by
                  rw [qv1, pow2_nat, Int.natAbs_natCast]
                  exact Nat.pow_lt_pow_right (by decide) (by omega)
                repeat' (tm_at "rs")
                refine w_mulI (iS_cm c1 hcn hq6) ?_
                repeat' (tm_at "rs")
                rename_i H12 k12 g12
                refine ⟨_, rfl, Kp.trans hk11 k12, k12 _ _ hDA hA11, ?_⟩
                rw [g12, List.take_succ, hn, List.map_append, ← List.append_assoc]
                show _ = some (HO.dK (mergeK [] (_ ++ [kvE (nmS "e" n) _])))
                rw [merge_snoc, qv1]
                rfl
              · rintro σ' H11 ⟨x7, rfl, hk11, hA11, hd11⟩
                repeat' (tm_at "rs")
                refine k D H11 nD (smk _ hk11) ?_
                rw [hd11, nV_len, List.take_length, hB]
                rfl
/-! ### _law_worth -/
theorem ok_f_law_worth {m : Nat} {f : Addr} {fd : FuncData} (F : Fun K "_law_worth" "_law_worth" s_f_law_worth f fd)
    (D_f_law_worth : Def P w K mg base CX0 "_law_worth" (0 + m) ["term", "answer"] (spR_f_law_worth K m)) :
    FnG P w K mg base CX0 (0 + m + 1) f fd ["term", "answer"] (spR_f_law_worth K (m + 1)) := by
  refine okG F sc_f_law_worth (fun vs H Q E h => ?_) (fun cdv A outer s H vs Q E hr h => ⟨_, (pss_cons (ps_if (pt_cmpR (op_gEq (K := K) rfl hr.units) (pe_ix (ix_g (K := K) rfl) (pv 0) pe_int (fun _ _ => rfl)) pe_str (nomark _)) (pss_one (ps_ret (pe_ix (ix_g (K := K) rfl) (pv 0) pe_int (fun _ _ => rfl)))) pss_nil)
    (pss_cons (ps_if (pt_cmpR (op_gEq (K := K) rfl hr.units) (pe_ix (ix_g (K := K) rfl) (pv 0) pe_int (fun _ _ => rfl)) pe_str (nomark _)) (pss_one (ps_ret (pe_dget (u_one hr.units) (pv 1) (pe_ix (ix_g (K := K) rfl) (pv 0) pe_int (fun _ _ => rfl)) (fun _ _ => rfl)))) pss_nil)
    (pss_cons (ps_par (i := 2) (j := 3) rfl sc_f_law_worth.nd rfl rfl (by decide) rfl rfl (pa_cons (pe_f D_f_law_worth (hr.mono (by omega)) (by rfl) pass0 (pa_cons (pe_ix (ix_g (K := K) rfl) (pv 0) pe_int (fun _ _ => rfl)) (pa_cons (pv 1) pa_nil))) (pa_cons (pe_f D_f_law_worth (hr.mono (by omega)) (by rfl) pass0 (pa_cons (pe_ix (ix_g (K := K) rfl) (pv 0) pe_int (fun _ _ => rfl)) (pa_cons (pv 1) pa_nil))) pa_nil)) (by rfl))
    (pss_cons (ps_if (pt_cmpR (op_gEq (K := K) rfl hr.units) (pe_ix (ix_g (K := K) rfl) (pv 0) pe_int (fun _ _ => rfl)) pe_str (nomark _)) (pss_one (ps_ret (pe_op (op_gAdd (K := K) rfl) (pv 2) (pv 3)))) pss_nil)
    (pss_cons (ps_if (pt_cmpR (op_gEq (K := K) rfl hr.units) (pe_ix (ix_g (K := K) rfl) (pv 0) pe_int (fun _ _ => rfl)) pe_str (nomark _)) (pss_one (ps_ret (pe_op op_gMul (pv 2) (pv 3)))) pss_nil)
    (pss_cons (ps_set (i := 4) sc_f_law_worth.nd rfl (by first | exact Or.inl rfl | exact Or.inr rfl) pe_int)
    (pss_cons (ps_while PassesOwn.never (pt_cmpR op_gGt (pv 3) pe_int (nomark _)) (pss_cons (ps_if (pt_cmpR (op_gEq (K := K) rfl hr.units) (pe_op op_gMod (pv 3) pe_int) pe_int (nomark _)) (pss_one (ps_set (i := 4) sc_f_law_worth.nd rfl (by first | exact Or.inl rfl | exact Or.inr rfl) (pe_op op_gMul (pv 4) (pv 2)))) pss_nil)
    (pss_one (ps_par (i := 2) (j := 3) rfl sc_f_law_worth.nd rfl rfl (by decide) rfl rfl (pa_cons (pe_op op_gMul (pv 2) (pv 2)) (pa_cons (pe_op op_gDiv (pv 3) pe_int) pa_nil)) (by rfl)))))
    (pss_one (ps_ret (pv 4)))))))))), ?_⟩)
  · obtain ⟨_, _, _, _, _, rfl, _⟩ := h
    rfl
  · obtain ⟨v, d, t, kvs, g, rfl, hv, hd, ht, hm, k⟩ := h
    try dsimp only [cxOf, Cx.nox, Cx.wish]
    change (_ : L2.TS) _ [some (v), some (.ref d), none, none, none] _
    refine w_start ?_
    cases t with
    | num n =>
      obtain ⟨p, rfl, gp⟩ := hv
      have n1 : (Str.ofString "num") = Str.ofString "num" := rfl
      repeat' (tm_at "rs")
      all_goals first | contradiction | exact k
    | name s =>
      obtain ⟨p, rfl, gp⟩ := hv
      have n1 : (Str.ofString "name") = Str.ofString "name" := rfl
      have n2 : ¬ (Str.ofString "name") = Str.ofString "num" := by decide
      obtain ⟨hv, _⟩ := ht
      repeat' (tm_at "rs")
      all_goals first | contradiction | exact k
    | op w a b =>
      obtain ⟨p, x, y, rfl, gp, ta, tb⟩ := hv
      obtain ⟨w1, w2, oa, ob, n, n1, hx, hc⟩ := ht
      have hm : max a.dep b.dep + 1 ≤ m := hm
      cases m with
      | zero => exact absurd hm (by omega)
      | succ r =>
        repeat' (tm_at "rs")
        all_goals first | contradiction | skip
        refine call_lworth ta hd oa (by omega) ?_
        repeat' (tm_at "rs")
        refine call_lworth tb hd ob (by omega) ?_
        have k : Q (.int ((cm w (ev g a) (ev g b) : Nat) : Int)) H := k
        generalize ev g a = u at *
        generalize ev g b = e at *
        repeat' (tm_at "rs")
        · rename_i c1 c2 c3
          rw [c3] at k
          exact k
        · rename_i c1 c2 c3 c4
          obtain ⟨m', hy, hm'⟩ : ∃ m : Nat, e < 2 ^ m ∧ n + m ≤ 1000000 := by
            rcases hc with ⟨h, _⟩ | ⟨_, h⟩ | ⟨_, h, _⟩
            · exact absurd h c3
            · exact h
            · exact absurd c4 h
          have hcm : CM (u : Int) (e : Int) := .inr (mulx_ok (a := n) (b := m') (by rw [Int.natAbs_natCast]; exact hx) (by rw [Int.natAbs_natCast]; exact hy) (by omega))
          repeat' (tm_at "rs")
          rw [c4] at k
          exact k
        · rename_i c1 c2 c3 c4
          have hme : PwOk u e n := by
            rcases hc with ⟨h, _⟩ | ⟨h, _⟩ | ⟨_, _, h⟩
            · exact absurd h c3
            · exact absurd h c4
            · exact h
          have k : Q (.int ((u ^ e : Nat) : Int)) H := by
            unfold cm at k
            rw [if_neg c3, if_neg c4] at k
            exact k
          obtain ⟨_, r, hr1, hr⟩ := hme
          have hbe : u ^ e < 2 ^ (r + 1) := Nat.lt_trans hr1 (Nat.pow_lt_pow_right (by decide) (by omega))
          have h2N : 2 ≤ 2 ^ (r + 1) := by
            rw [Nat.pow_succ]
            have := Nat.two_pow_pos r
            omega
          refine w_while (fun M σ' H' => ∃ B N F : Nat, σ' = [some (.ref p), some (.ref d), some (.int (B : Int)), some (.int (N : Int)), some (.int (F : Int))] ∧ H' = H ∧ F * B ^ N = u ^ e ∧ ((B < 2 ∧ F < 2) ∨ (2 ≤ B ∧ 1 ≤ F)) ∧ M = N) e ⟨u, e, 1, rfl, rfl, Nat.one_mul _, by omega, rfl⟩ ?_
          rintro M σ' H' ⟨B, N, F, rfl, rfl, hP, hBF, rfl⟩
          rcases Nat.eq_zero_or_pos M with h0 | h0
          · subst h0
            repeat' (tm_at "rs")
            all_goals first | (exfalso; omega) | skip
            rw [Nat.pow_zero, Nat.mul_one] at hP
            rw [hP]
            exact k
          · have hB : B < 2 ^ (r + 1) ∧ F < 2 ^ (r + 1) := by
              rcases hBF with ⟨q1, q2⟩ | ⟨q1, q2⟩
              · exact ⟨Nat.lt_of_lt_of_le q1 h2N, Nat.lt_of_lt_of_le q2 h2N⟩
              · have e1 : B ^ 1 ≤ B ^ M := Nat.pow_le_pow_right (by omega) h0
                rw [Nat.pow_one] at e1
                have e2 : B ^ M ≤ u ^ e := by rw [← hP]; exact Nat.le_mul_of_pos_left _ q2
                have e3 : F ≤ u ^ e := by rw [← hP]; exact Nat.le_mul_of_pos_right F (Nat.pow_pos (by omega))
                exact ⟨Nat.lt_of_le_of_lt (Nat.le_trans e1 e2) hbe, Nat.lt_of_le_of_lt e3 hbe⟩
            have hc1 : CM (F : Int) (B : Int) := .inr (mulx_ok (a := r + 1) (b := r + 1) (by rw [Int.natAbs_natCast]; exact hB.2) (by rw [Int.natAbs_natCast]; exact hB.1) (by omega))
            have hc2 : CM (B : Int) (B : Int) := .inr (mulx_ok (a := r + 1) (b := r + 1) (by rw [Int.natAbs_natCast]; exact hB.1) (by rw [Int.natAbs_natCast]; exact hB.1) (by omega))
            have hBF1 : (B * B < 2 ∧ F * B < 2) ∨ (2 ≤ B * B ∧ 1 ≤ F * B) := by
              rcases hBF with ⟨q1, q2⟩ | ⟨q1, q2⟩
              · have a1 : B = 0 ∨ B = 1 := by omega
                have a2 : F = 0 ∨ F = 1 := by omega
                rcases a1 with rfl | rfl <;> rcases a2 with rfl | rfl <;> exact .inl ⟨by decide, by decide⟩
              · exact .inr ⟨Nat.le_trans q1 (Nat.le_mul_of_pos_left _ (by omega)), Nat.mul_pos q2 (by omega)⟩
            have hBF2 : (B * B < 2 ∧ F < 2) ∨ (2 ≤ B * B ∧ 1 ≤ F) := by
              rcases hBF with ⟨q1, q2⟩ | ⟨q1, q2⟩
              · have a1 : B = 0 ∨ B = 1 := by omega
                rcases a1 with rfl | rfl <;> exact .inl ⟨by decide, q2⟩
              · exact .inr ⟨Nat.le_trans q1 (Nat.le_mul_of_pos_left _ (by omega)), q2⟩
            repeat' (tm_at "rs")
            · exact ⟨M / 2, by omega, B * B, M / 2, F * B, rfl, rfl, by rw [pw2_odd (by omega)]; exact hP, hBF1, rfl⟩
            · exact ⟨M / 2, by omega, B * B, M / 2, F, rfl, rfl, by rw [pw2_even (by omega)]; exact hP, hBF2, rfl⟩
            · exfalso
              omega
/-! ### _law_holds -/
theorem ok_f_law_holds {f : Addr} {fd : FuncData} (F : Fun K "_law_holds" "_law_holds" s_f_law_holds f fd)
    (D_f_law_worth : Def P w K mg base CX0 "_law_worth" 41 ["term", "answer"] (sp_f_law_worth K)) :
    FnG P w K mg base CX0 42 f fd ["saying", "answer"] (sp_f_law_holds K) := by
  refine okG F sc_f_law_holds (fun vs H Q E h => ?_) (fun cdv A outer s H vs Q E hr h => ⟨_, (pss_cons (ps_asg (pv 0) (pg_gt (K := K) (n := 3) rfl rfl (pgs_cons (pg_name (i := 2) sc_f_law_holds.nd rfl (by first | exact Or.inl rfl | exact Or.inr rfl)) (pgs_cons (pg_name (i := 3) sc_f_law_holds.nd rfl (by first | exact Or.inl rfl | exact Or.inr rfl)) (pgs_cons (pg_name (i := 4) sc_f_law_holds.nd rfl (by first | exact Or.inl rfl | exact Or.inr rfl)) pgs_nil)))))
    (pss_cons (ps_par (i := 5) (j := 6) rfl sc_f_law_holds.nd rfl rfl (by decide) rfl rfl (pa_cons (pe_f D_f_law_worth (hr.mono (by omega)) (by rfl) pass0 (pa_cons (pv 3) (pa_cons (pv 1) pa_nil))) (pa_cons (pe_f D_f_law_worth (hr.mono (by omega)) (by rfl) pass0 (pa_cons (pv 4) (pa_cons (pv 1) pa_nil))) pa_nil)) (by rfl))
    (pss_cons (ps_if (pt_cmpR (op_gEq (K := K) rfl hr.units) (pv 2) pe_str (nomark _)) (pss_one (ps_ret (pe_cmpR (op_gEq (K := K) rfl hr.units) (pv 5) (pv 6) (nomark _)))) pss_nil)
    (pss_one (ps_ret (pe_cmpR (op_gEq (K := K) rfl hr.units) (pe_op op_gAnd (pv 5) (pv 6)) (pv 5) (nomark _))))))), ?_⟩)
  · obtain ⟨_, _, _, _, _, _, _, _, _, rfl, _⟩ := h
    rfl
  · obtain ⟨s, d, w, l, r, a, b, kvs, g, rfl, hs, hw, ha, hb, hd, oa, ob, da, db, k⟩ := h
    try dsimp only [cxOf, Cx.nox, Cx.wish]
    change (_ : L2.TS) _ [some (.ref s), some (.ref d), none, none, none, none, none] _
    refine w_start ?_
    repeat' (tm_at "rs")
    refine call_lworth (n := 39) ha hd oa da ?_
    repeat' (tm_at "rs")
    refine call_lworth (n := 39) hb hd ob db ?_
    repeat' (tm_at "rs")
    · rename_i h1
      have h2 : ¬ w = Str.ofString "under" := by
        rw [h1]
        decide
      refine cast ?_ (k H (Same.refl _))
      rw [if_neg h2]
      congr 2
      refine decide_eq_decide.mpr ?_
      omega
    · rename_i h1 z z1 z2 z3 z4
      have h2 : w = Str.ofString "under" := by
        rcases hw with e | e
        · exact absurd e h1
        · exact e
      refine cast ?_ (k H (Same.refl _))
      rw [if_pos h2, z1, and_nat]
      congr 2
      refine decide_eq_decide.mpr ?_
      omega
/-! ### law -/
theorem ok_f_law {f : Addr} {fd : FuncData} (F : Fun K "law" "law" s_f_law f fd) {C_Program : Addr}
    (D_f_law_box : Def P w K mg base CX0 "_law_box" 1 ["script", "k"] (sp_f_law_box K))
    (D_f_law_stopping : Def P w K mg base CX0 "_law_stopping" 5 ["box", "limit"] (sp_f_law_stopping K))
    (G_Program : DefM P w K mg base CX0 "Program" 5 ["self", "boxes", "rows"] (sp_f_Program__init K) C_Program)
    (SC_Program : ClsN K "Program" C_Program ["boxes", "rows"])
    (D_f_sayings_of : Def P w K mg base CX0 "sayings_of" 5 ["program"] (sp_f_sayings_of K))
    (D_f_law_answer : Def P w K mg base CX0 "_law_answer" 2 ["boxes", "rows", "begin", "stands", "c"] (sp_f_law_answer K))
    (D_f_law_holds : Def P w K mg base CX0 "_law_holds" 42 ["saying", "answer"] (sp_f_law_holds K))
    (DK_f_least_c_p2 : DefK P w K mg base CX0 "least_c" 5 ["program", "begin", "most"] [] gk_f_least_c_p2 (sp_f_least_c K))
    (m_range : mg "range" = none)
    (m_max : mg "max" = none)
    (m_min : mg "min" = none)
    (m_list : mg "list" = none)
    (m_all : mg "all" = none)
    (m_len : mg "len" = none) :
    FnG P w K mg base CX0 43 f fd ["script"] (sp_f_law K) := by
  refine okG F sc_f_law (fun vs H Q E h => ?_) (fun cdv A outer s H vs Q E hr h => ⟨_, (pss_cons (ps_for PassesOwn.never rfl (pi_range1 (by rfl) m_range (pa_cons (pe_callB (call_gMax rfl) (by rfl) m_max (by decide +kernel) (pa_cons pe_int (pa_cons (pe_callB (call_gMin rfl) (by rfl) m_min (by decide +kernel) (pa_cons pe_int (pa_cons (pe_callB (call_gLen (K := K) rfl) (by rfl) m_len PySem.boot_len (pa_cons (pv 0) pa_nil)) pa_nil))) pa_nil))) pa_nil)) (pg_name (i := 1) sc_f_law.nd rfl (by first | exact Or.inl rfl | exact Or.inr rfl)) (pss_cons (ps_set (i := 2) sc_f_law.nd rfl (by first | exact Or.inl rfl | exact Or.inr rfl) (pe_f D_f_law_box (hr.mono (by omega)) (by rfl) pass0 (pa_cons (pv 0) (pa_cons (pv 1) pa_nil))))
    (pss_cons (ps_asg (pe_f D_f_law_stopping (hr.mono (by omega)) (by rfl) pass0 (pa_cons (pv 2) (pa_cons pe_int pa_nil))) (pg_gt (K := K) (n := 4) rfl rfl (pgs_cons (pg_name (i := 3) sc_f_law.nd rfl (by first | exact Or.inl rfl | exact Or.inr rfl)) (pgs_cons (pg_name (i := 4) sc_f_law.nd rfl (by first | exact Or.inl rfl | exact Or.inr rfl)) (pgs_cons (pg_name (i := 5) sc_f_law.nd rfl (by first | exact Or.inl rfl | exact Or.inr rfl)) (pgs_cons (pg_name (i := 6) sc_f_law.nd rfl (by first | exact Or.inl rfl | exact Or.inr rfl)) pgs_nil))))))
    (pss_cons (ps_set (i := 7) sc_f_law.nd rfl (by first | exact Or.inl rfl | exact Or.inr rfl) (pe_mk G_Program (hr.mono (by omega)) (by rfl) pass0 (pa_cons (pv 3) (pa_cons (pv 4) pa_nil))))
    (pss_cons (ps_par (i := 8) (j := 9) rfl sc_f_law.nd rfl rfl (by decide) rfl rfl (pa_cons (pe_fK DK_f_least_c_p2 (hr.mono (by omega)) (by rfl) pass0 (pa_cons (pv 7) (pa_cons (pv 5) pa_nil)) pk_nil) (pa_cons (pe_f D_f_sayings_of (hr.mono (by omega)) (by rfl) pass0 (pa_cons (pv 7) pa_nil)) pa_nil)) (by rfl))
    (pss_one (ps_for PassesOwn.never rfl (pi_range2 (by rfl) m_range (pa_cons pe_int (pa_cons (pe_op (op_gAdd (K := K) rfl) (pv 8) pe_int) pa_nil))) (pg_name (i := 10) sc_f_law.nd rfl (by first | exact Or.inl rfl | exact Or.inr rfl)) (pss_cons (ps_set (i := 11) sc_f_law.nd rfl (by first | exact Or.inl rfl | exact Or.inr rfl) (pe_f D_f_law_answer (hr.mono (by omega)) (by rfl) pass0 (pa_cons (pv 3) (pa_cons (pv 4) (pa_cons (pv 5) (pa_cons (pv 6) (pa_cons (pv 10) pa_nil)))))))
    (pss_cons (ps_for PassesOwn.never rfl (pi_gl (K := K) rfl (pe_callTy (call_list_dK rfl) (by rfl) m_list PyProof.Rows.boot_list (pa_cons (pv 11) pa_nil))) (pg_name (i := 12) sc_f_law.nd rfl (by first | exact Or.inl rfl | exact Or.inr rfl)) (pss_one (ps_dput (u_one hr.units) (pv 11) (pv 12) (pe_callB (call_gMax rfl) (by rfl) m_max (by decide +kernel) (pa_cons pe_int (pa_cons (pe_dget (u_one hr.units) (pv 11) (pv 12) (fun _ _ => rfl)) pa_nil))) rfl)))
    (pss_cons (ps_set (i := 13) sc_f_law.nd rfl (by first | exact Or.inl rfl | exact Or.inr rfl) (pe_callB (cr_all rfl) (by rfl) m_all (by decide +kernel) (pa_cons (pe_lc (own := _) rfl sc_f_law.nd (pi_gl (K := K) rfl (pv 9)) (blkOk_by (own := [("one", 14)]) (N := ["script", "k", "box", "boxes", "rows", "begin", "stands", "program", "least", "sayings", "c", "answer", "name", "good", "one"]) (sc := defScope s_f_law) (by decide +kernel)) (fun _ _ _ _ _ => (pg_name (i := 14) sc_f_law.nd rfl (by first | exact Or.inl rfl | exact Or.inr rfl))) (fun _ _ _ _ _ => pts_nil) (fun _ _ _ _ _ => (pe_f D_f_law_holds (hr.mono (by omega)) (by rfl) pass0 (pa_cons (pe_tup (pa_cons (pe_fldK (K := K) rfl (pv 14) rfl) (pa_cons (pe_fldK (K := K) rfl (pv 14) rfl) (pa_cons (pe_fldK (K := K) rfl (pv 14) rfl) pa_nil)))) (pa_cons (pv 11) pa_nil))))) pa_nil)))
    (pss_one (ps_if (pt_cmpR (op_gNe (K := K) rfl hr.units) (pv 13) (pe_cmpR op_gGe (pv 10) (pv 8) (nomark _)) (nomark _)) (pss_one (ps_ret pe_bl)) pss_nil))))))))))))
    (pss_one (ps_ret pe_bl))), ?_⟩)
  · obtain ⟨_, _, rfl, _⟩ := h
    rfl
  · obtain ⟨a, ns, rfl, hS, hlen, k⟩ := h
    try dsimp only [cxOf, Cx.nox, Cx.wish]
    change (_ : L2.TS) _ [some (.ref a), none, none, none, none, none, none, none, none, none, none, none, none, none, none] _
    refine w_start ?_
    have hl0 : (ns.map V.int).length ≤ 63 := by rw [List.length_map]; exact hlen
    repeat' (tm_at "rs")
    refine loopR (fun i σ' H' => ∃ (x1 x2 x3 x4 x5 x6 x7 x8 x9 x10 x11 x12 x13 x14 : Option V), σ' = [some (.ref a), x1, x2, x3, x4, x5, x6, x7, x8, x9, x10, x11, x12, x13, x14] ∧ SqF K H' a (ns.map V.int)) ?_ ?_ ?_
    · exact ⟨_, _, _, _, _, _, _, _, _, _, _, _, _, _, rfl, hS⟩
    · rintro i σ' H0 hi ⟨x1, x2, x3, x4, x5, x6, x7, x8, x9, x10, x11, x12, x13, x14, rfl, hS0⟩
      repeat' (tm_at "rs")
      rename_i b H1 nb sb bb
      refine call_stopping (M := 30) bb (by decide) (fun t p bp q m rs bs ss H3 np nbp nq _ _ _ gt h4 ho k3 b3 => ?_)
      have hS3 := (hS0.sm sb).kpB bb k3
      obtain ⟨⟨us, gp, hR⟩, gb, ⟨xs, gq, hx⟩⟩ := id h4
      have R := ho.runB (by decide)
      have hg := ho.pr
      have hsl := ho.sl
      obtain ⟨l0, hl0'⟩ := R.hd
      have c1000 : ∀ c ∈ bs, c ≤ 1000 := fun c hc => Nat.le_trans (ho.bd c hc) (by decide)
      have r200 : runL rs 200 (0, bs) = ss := ho.st.run (by omega)
      repeat' (tm_at "rs")
      refine mk_prog SC_Program gp hR hg (fun pr H4 n4 s4 hpr => ?_)
      repeat' (tm_at "rs")
      refine call_leastOf (M := 200) hpr (.inl (s4 _ _ gb)) hg ho.ln c1000 (by decide) (ho.st.stp (by omega)) (fun H5 s5 => ?_)
      rw [r200]
      repeat' (tm_at "rs")
      refine call_sysOf (hpr.sm s5) hg.b5 hg.ok hg.len (fun Y vs H6 nY s6 gY hY => ?_)
      have s36 := s4.trans (s5.trans s6)
      have h20 := cL_bd R hg.len
      have hne : ss ≠ [] := by rw [hl0']; simp
      obtain ⟨pre, ⟨k0, ys⟩, hss⟩ : ∃ pre last, ss = pre ++ [last] := ⟨ss.dropLast, ss.getLast hne, (List.dropLast_concat_getLast hne).symm⟩
      obtain ⟨L, hL⟩ : ∃ L, L = cL (grt ss) rs.length := ⟨_, rfl⟩
      have hL1 : 1 ≤ L := by rw [hL]; exact cL_pos
      rw [← hL] at h20 ⊢
      have hP6 := (hpr.sm s5).sm s6
      have hsy := sys_len66 hg
      have hyl := hY.len
      repeat' (tm_at "rs")
      refine loopR (fun j σ' H' => ∃ (x10 x11 x12 x13 x14 : Option V), σ' = [some (.ref a), some (.int (0 + (i : Int))), some (.ref b), some (.int (m : Nat)), some (.ref p), some (.ref bp), some (.ref q), some (.ref pr), some (.int (L : Nat)), some (.ref Y), x10, x11, x12, x13, x14] ∧ Sm H6 H') ?_ ?_ ?_
      · exact ⟨_, _, _, _, _, rfl, Same.refl _⟩
      · rintro j σ' H' hj ⟨x10, x11, x12, x13, x14, rfl, sm⟩
        have s3' := s36.trans sm
        have ec : (1 + (j : Int)) = ((j + 1 : Nat) : Int) := by omega
        repeat' (tm_at "rs")
        rw [ec]
        refine call_lawAnswer (c := j + 1) (s3' _ _ gp) (hR.tk (Tk.sm s3')) hg (s3' _ _ gb) ho.ln (s3' _ _ gq) (hx.tk (Tk.sm s3')) hss R.ln (by omega) (by omega) (by omega) (fun s hs x hx => Nat.le_trans ((R.bd s hs).2.2 x hx) (by decide)) (fun D H7 nD s7 gD => ?_)
        have nd := ans_nd (bs := bs) (ys := ys) (ss := ss) (c := j + 1) hg
        have hbY : ∀ s ∈ ss, ∀ j, s.2.getD j 0 ≤ 2 ^ 20 := fun s hs j => Nat.le_trans (getD_le fun x hx => (R.bd s hs).2.2 x hx) (by decide)
        have hen := ents_ub (bs := bs) (ys := ys) (ss := ss) (c := j + 1) hg (by omega) (by
          have := Nat.mul_le_mul (show j + 1 ≤ 30 by omega) (show ss.length + 1 ≤ 33 by omega)
          omega) (fun j => hbY (0, bs) (by rw [hl0']; exact List.mem_cons_self) j) (fun j => hbY (k0, ys) (by rw [hss]; simp) j) (fun t j => by
          unfold cell
          split
          · rename_i r cs e
            exact hbY (r, cs) (List.mem_of_getElem? e) j
          · exact Nat.zero_le _)
        have hkeys : (ansD m rs bs ys ss (j + 1)).map (·.1) = (namesL m rs.length (asked m rs)).map Sum.inr := ans_keys
        have hgv : ∀ {z : Str} {v : Int}, kvE z v ∈ ansD m rs bs ys ss (j + 1) → gOf (ansD m rs bs ys ss (j + 1)) z = v.toNat := fun h => by
          have := ans_g (bs := bs) (ys := ys) (ss := ss) (c := j + 1) hg h
          rw [ans_merge hg] at this
          exact this
        have hkl : (ansD m rs bs ys ss (j + 1)).length ≤ 42 := by
          have := congrArg List.length hkeys
          rw [List.length_map, List.length_map] at this
          have := names_len hg
          omega
        rw [ans_merge hg] at gD
        have hgx : ∀ i < m, gOf (ansD m rs bs ys ss (j + 1)) (nmS "x" i) = bs.getD i 0 := fun i hi => by
          rw [hgv (List.mem_append_left _ (List.mem_append_left _ (List.mem_append_left _ (List.mem_append_left _ (List.mem_append_left _ (List.mem_map.mpr ⟨i, List.mem_range.mpr hi, rfl⟩)))))), Int.toNat_natCast]
        have hgc : gOf (ansD m rs bs ys ss (j + 1)) "c" = j + 1 := by
          have : kvE "c" ((j + 1 : Nat) : Int) ∈ ansD m rs bs ys ss (j + 1) := List.mem_append_left _ (List.mem_append_left _ (List.mem_append_left _ (List.mem_append_right _ (by unfold an8; simp))))
          rw [hgv this, Int.toNat_natCast]
        have hgs : gOf (ansD m rs bs ys ss (j + 1)) "s" = ss.length - 1 := by
          have : kvE "s" ((ss.length : Int) - 1) ∈ ansD m rs bs ys ss (j + 1) := List.mem_append_left _ (List.mem_append_left _ (List.mem_append_left _ (List.mem_append_right _ (by unfold an8; simp))))
          rw [hgv this]
          omega
        have hall : (sysOf m rs).all (holdG (gOf (ansD m rs bs ys ss (j + 1)))) = decide (L ≤ j + 1) := by
          by_cases hc : L ≤ j + 1
          · rw [decide_eq_true hc]
            have hA : AnB m rs bs ys ss (j + 1) := AnB.of ho (by decide) hss (by rw [← hL]; exact hc) (by omega)
            have h := run_hold ho hA hss
            rw [ans_merge hg] at h
            exact List.all_eq_true.mpr h
          · rw [decide_eq_false hc]
            refine Bool.eq_false_iff.mpr fun q => hc ?_
            have := (hold_run ho (by decide) hss hgx (List.all_eq_true.mp q)).2.2
            rw [hgc, ← hL] at this
            exact this
        generalize ansD m rs bs ys ss (j + 1) = kvs at *
        repeat' (tm_at "rs")
        refine w_lstD gD (fun W H8 nW s8 gW => ?_)
        have gD8 := s8 _ _ gD
        have WD : W ≠ D := (ne_of_none gD nW).symm
        have hWl : (kvs.map fun kv => kV kv.1).length = kvs.length := List.length_map _
        repeat' (tm_at "rs")
        refine loopL (xs := kvs.map fun kv => kV kv.1) (fun u σ' H' => ∃ (x12 x13 x14 : Option V), σ' = [some (.ref a), some (.int (0 + (i : Int))), some (.ref b), some (.int (m : Nat)), some (.ref p), some (.ref bp), some (.ref q), some (.ref pr), some (.int (L : Nat)), some (.ref Y), some (.int ((j + 1 : Nat) : Int)), some (.ref D), x12, x13, x14] ∧ H' D = some (.dK ((kvs.take u).map mx0 ++ kvs.drop u)) ∧ Kp D H8 H') ?_ ?_ ?_ ?_
        · exact ⟨_, _, _, rfl, by rw [List.take_zero, List.drop_zero]; exact gD8, Kp.refl _⟩
        · rintro u σ' H' hu ⟨x12, x13, x14, rfl, gu, ku⟩
          exact sq_of (ku _ _ WD gW)
        · rintro u x σ' H' hu ⟨x12, x13, x14, rfl, gu, ku⟩
          have hul : u < kvs.length := by
            have := (List.getElem?_eq_some_iff.mp hu).1
            rw [hWl] at this
            exact this
          obtain ⟨s, v, ep, vb, sl⟩ := hen _ (List.getElem_mem hul)
          have hx : x = .str s := by
            rw [List.getElem?_map, List.getElem?_eq_getElem hul, ep] at hu
            exact (Option.some.inj hu).symm
          have e1 : kvs.take (u + 1) = kvs.take u ++ [(Sum.inr s, V.int v)] := by
            rw [List.take_succ, List.getElem?_eq_getElem hul, ep]
            rfl
          have e2 : kvs.drop u = (Sum.inr s, V.int v) :: kvs.drop (u + 1) := by
            rw [List.drop_eq_getElem_cons hul, ep]
            rfl
          rw [e2] at gu
          have ndl : (((kvs.take u).map mx0 ++ (Sum.inr s, V.int v) :: kvs.drop (u + 1)).map (·.1)).Nodup := by
            rw [List.map_append, mx0_keys, ← List.map_append, ← e2, List.take_append_drop]
            exact nd
          have hv : valV ((kvs.take u).map mx0 ++ (Sum.inr s, V.int v) :: kvs.drop (u + 1)) (.inr s) = some (.int v) := valV_nd ndl (List.mem_append_right _ List.mem_cons_self)
          have hzz : ((kvs.take u).map mx0 ++ (Sum.inr s, V.int v) :: kvs.drop (u + 1)).length ≤ 100 := by
            rw [List.length_append, List.length_cons, List.length_map, List.length_take, List.length_drop]
            omega
          subst hx
          repeat' (tm_at "rs")
          rename_i H9 k9 g9
          rw [putK_at ndl] at g9
          refine ⟨_, _, _, rfl, ?_, ku.trans k9⟩
          rw [g9, e1, List.map_append, List.append_assoc]
          rfl
        · rintro σ' H9 ⟨x12, x13, x14, rfl, gu, ku⟩
          rw [hWl, List.take_length, List.drop_length, List.append_nil] at gu
          have hk : DicOk (kvs.map mx0) (namesL m rs.length (asked m rs)) (2 ^ 5000) := by
            refine ⟨by rw [mx0_keys]; exact nd, fun p hp => ?_, fun z hz => ?_⟩
            · obtain ⟨p0, hp0, rfl⟩ := List.mem_map.mp hp
              obtain ⟨s, v, ep, vb, sl⟩ := hen p0 hp0
              refine ⟨s, v.toNat, ?_, by omega, sl⟩
              rw [ep]
              show (Sum.inr s, V.int (max 0 v)) = (Sum.inr s, V.int ((v.toNat : Nat) : Int))
              congr 2
              omega
            · have h1 : Sum.inr z ∈ (kvs.map mx0).map (·.1) := by
                rw [mx0_keys, hkeys]
                exact List.mem_map.mpr ⟨z, hz, rfl⟩
              obtain ⟨p, hp, e⟩ := List.mem_map.mp h1
              exact ⟨p, hp, e⟩
          have hcb : (j + 1) * (ss.length - 1 + 1) ≤ 30 * 31 := Nat.mul_le_mul (by omega) (by omega)
          have look : ∀ s ∈ sysOf m rs, LookOk (kvs.map mx0) s := fun s hs => by
            obtain ⟨⟨a1, a2, a3⟩, ⟨b1, b2, b3⟩⟩ := sys_tm (B := 9000) hg (by decide) (by decide) (fun z hz => by
              obtain ⟨e1, e2⟩ := hk.at hz
              exact ⟨e1, tb_mono e2 (by decide)⟩) (by rw [gOf_mx0 nd, gOf_mx0 nd, hgc, hgs]; omega) s hs
            exact ⟨sys_word _ _ _ hs, a1, b1, a2, b2, by omega, by omega⟩
          have hgf : gOf (kvs.map mx0) = gOf kvs := funext fun z => gOf_mx0 nd z
          have hB : ∀ s, holdB (kvs.map mx0) s = holdG (gOf kvs) s := fun s => by
            show holdG (gOf (kvs.map mx0)) s = _
            rw [hgf]
          have s68 : Sm H6 H9 := sm_mut (sm.trans (s7.trans s8)) ((sm.trans (Same.refl _)).free nD) ku
          have gY9 := s68 _ _ gY
          have hY9 := hY.sm s68
          repeat' (tm_at "rs")
          refine lcLs (xs := vs) (fun W2 u H' => H' W2 = some (.lst ((((sysOf m rs).take u).map (holdB (kvs.map mx0))).map V.bl)) ∧ Sm H9 H') ?_ ?_ ?_ ?_
          · exact fun W2 H' nW2 sm hD => ⟨hD, sm⟩
          · rintro W2 u H' nW2 hu ⟨hW2, sm2⟩
            exact sq_of (sm2 _ _ gY9)
          · rintro W2 u x H' nW2 hu ⟨hW2, sm2⟩
            obtain ⟨s, hsi, l, r, hsay, ta, tb⟩ := paired_get hY9 hu
            obtain ⟨hw, oa, ob, da, db, wa, wb⟩ := look s (List.mem_of_getElem? hsi)
            have hs2 := hsay.sm sm2
            have ta2 := ta.sm sm2
            have tb2 := tb.sm sm2
            have hz : ((((sysOf m rs).take u).map (holdB (kvs.map mx0))).map V.bl).length ≤ 1000 := by rw [List.length_map, List.length_map, List.length_take]; omega
            repeat' (tm_at "rs")
            rename_i T HA nT sT hT
            obtain ⟨q, y, z, e, gq, ta3, tb3⟩ := hT
            cases e
            refine call_lholds gq hw ta3 tb3 (sT _ _ (sm2 _ _ gu)) oa ob da db (fun HB sB => ?_)
            rw [show (if s.1 = "under" then decide (ev (gOf (kvs.map mx0)) s.2.1 &&& ev (gOf (kvs.map mx0)) s.2.2 = ev (gOf (kvs.map mx0)) s.2.1) else decide (ev (gOf (kvs.map mx0)) s.2.1 = ev (gOf (kvs.map mx0)) s.2.2)) = holdB (kvs.map mx0) s from rfl]
            have hW3 := sB _ _ (sT _ _ hW2)
            repeat' (tm_at "rs")
            rename_i HC kC gC
            refine ⟨?_, sm_mut (sm2.trans (sT.trans sB)) (Same.free (Same.refl _) nW2) kC⟩
            rw [List.take_succ, hsi, List.map_append, List.map_append]
            exact gC
          · rintro W2 H' nW2 ⟨hW2, sm2⟩
            rw [hyl, List.take_length] at hW2
            repeat' (tm_at "rs")
            · rename_i e
              refine absurd ?_ e
              rw [all_map_id2, show holdB (kvs.map mx0) = holdG (gOf kvs) from funext hB, hall]
              exact decide_eq_decide.mpr (by omega)
            · exact ⟨_, _, _, _, _, rfl, s68.trans sm2⟩
      · rintro σ' H' ⟨x10, x11, x12, x13, x14, rfl, sm⟩
        repeat' (tm_at "rs")
        have s3' := s36.trans sm
        exact ⟨_, _, _, _, _, _, _, _, _, _, _, _, _, _, rfl, hS3.sm s3'⟩
    · rintro σ' H' ⟨x1, x2, x3, x4, x5, x6, x7, x8, x9, x10, x11, x12, x13, x14, rfl, hS0⟩
      repeat' (tm_at "rs")
      exact k _
end
theorem all_mk {l : PySem.W.OpenLaw} {w : World} {K : PySem.W.Frag} {h : Heap} {mg : Str → Option Value} {fa : Addr} (X : K.In h) (G : h.Ns mainGlobals mg) (hfa : mg "law" = some (.ref fa))
    {f0 : Addr} {od0 an0 : Option Addr} {sl0 : Array (Option Value)} {oc0 kV0 dc0 pm0 cd0 ct0 : Value}
    {f1 : Addr} {od1 an1 : Option Addr} {sl1 : Array (Option Value)} {oc1 kV1 dc1 pm1 cd1 ct1 : Value}
    {f2 : Addr} {od2 an2 : Option Addr} {sl2 : Array (Option Value)} {oc2 kV2 dc2 pm2 cd2 ct2 : Value}
    {f3 : Addr} {od3 an3 : Option Addr} {sl3 : Array (Option Value)} {oc3 kV3 dc3 pm3 cd3 ct3 : Value}
    {f4 : Addr} {od4 an4 : Option Addr} {sl4 : Array (Option Value)} {oc4 kV4 dc4 pm4 cd4 ct4 : Value}
    {f5 : Addr} {od5 an5 : Option Addr} {sl5 : Array (Option Value)} {oc5 kV5 dc5 pm5 cd5 ct5 : Value}
    {f6 : Addr} {od6 an6 : Option Addr} {sl6 : Array (Option Value)} {oc6 kV6 dc6 pm6 cd6 ct6 : Value}
    {f7 : Addr} {od7 an7 : Option Addr} {sl7 : Array (Option Value)} {oc7 kV7 dc7 pm7 cd7 ct7 : Value}
    {f8 : Addr} {od8 an8 : Option Addr} {sl8 : Array (Option Value)} {oc8 kV8 dc8 pm8 cd8 ct8 : Value}
    {f9 : Addr} {od9 an9 : Option Addr} {sl9 : Array (Option Value)} {oc9 kV9 dc9 pm9 cd9 ct9 : Value}
    {f10 : Addr} {od10 an10 : Option Addr} {sl10 : Array (Option Value)} {oc10 kV10 dc10 pm10 cd10 ct10 : Value}
    {f11 : Addr} {od11 an11 : Option Addr} {sl11 : Array (Option Value)} {oc11 kV11 dc11 pm11 cd11 ct11 : Value}
    {f12 : Addr} {od12 an12 : Option Addr} {sl12 : Array (Option Value)} {oc12 kV12 dc12 pm12 cd12 ct12 : Value}
    {f13 : Addr} {od13 an13 : Option Addr} {sl13 : Array (Option Value)} {oc13 kV13 dc13 pm13 cd13 ct13 : Value}
    {f14 : Addr} {od14 an14 : Option Addr} {sl14 : Array (Option Value)} {oc14 kV14 dc14 pm14 cd14 ct14 : Value}
    {f15 : Addr} {od15 an15 : Option Addr} {sl15 : Array (Option Value)} {oc15 kV15 dc15 pm15 cd15 ct15 : Value}
    {f16 : Addr} {od16 an16 : Option Addr} {sl16 : Array (Option Value)} {oc16 kV16 dc16 pm16 cd16 ct16 : Value}
    {f17 : Addr} {od17 an17 : Option Addr} {sl17 : Array (Option Value)} {oc17 kV17 dc17 pm17 cd17 ct17 : Value}
    {f18 : Addr} {od18 an18 : Option Addr} {sl18 : Array (Option Value)} {oc18 kV18 dc18 pm18 cd18 ct18 : Value}
    {f19 : Addr} {od19 an19 : Option Addr} {sl19 : Array (Option Value)} {oc19 kV19 dc19 pm19 cd19 ct19 : Value}
    {f20 : Addr} {od20 an20 : Option Addr} {sl20 : Array (Option Value)} {oc20 kV20 dc20 pm20 cd20 ct20 : Value}
    {f21 : Addr} {od21 an21 : Option Addr} {sl21 : Array (Option Value)} {oc21 kV21 dc21 pm21 cd21 ct21 : Value}
    {dT21 : Addr} {dtc21 : Value} {dtd21 : Option Addr} {dti21 : Array Value} {dtn21 : Nat} {dts21 : Array (Option Value)}
    {f22 : Addr} {od22 an22 : Option Addr} {sl22 : Array (Option Value)} {oc22 kV22 dc22 pm22 cd22 ct22 : Value}
    {f23 : Addr} {od23 an23 : Option Addr} {sl23 : Array (Option Value)} {oc23 kV23 dc23 pm23 cd23 ct23 : Value}
    {dT23 : Addr} {dtc23 : Value} {dtd23 : Option Addr} {dti23 : Array Value} {dtn23 : Nat} {dts23 : Array (Option Value)}
    {f24 : Addr} {od24 an24 : Option Addr} {sl24 : Array (Option Value)} {oc24 kV24 dc24 pm24 cd24 ct24 : Value}
    {f25 : Addr} {od25 an25 : Option Addr} {sl25 : Array (Option Value)} {oc25 kV25 dc25 pm25 cd25 ct25 : Value}
    {dT25 : Addr} {dtc25 : Value} {dtd25 : Option Addr} {dti25 : Array Value} {dtn25 : Nat} {dts25 : Array (Option Value)}
    {f26 : Addr} {od26 an26 : Option Addr} {sl26 : Array (Option Value)} {oc26 kV26 dc26 pm26 cd26 ct26 : Value}
    {f27 : Addr} {od27 an27 : Option Addr} {sl27 : Array (Option Value)} {oc27 kV27 dc27 pm27 cd27 ct27 : Value}
    {f28 : Addr} {od28 an28 : Option Addr} {sl28 : Array (Option Value)} {oc28 kV28 dc28 pm28 cd28 ct28 : Value}
    {f29 : Addr} {od29 an29 : Option Addr} {sl29 : Array (Option Value)} {oc29 kV29 dc29 pm29 cd29 ct29 : Value}
    {f30 : Addr} {od30 an30 : Option Addr} {sl30 : Array (Option Value)} {oc30 kV30 dc30 pm30 cd30 ct30 : Value}
    {f31 : Addr} {od31 an31 : Option Addr} {sl31 : Array (Option Value)} {oc31 kV31 dc31 pm31 cd31 ct31 : Value}
    {f32 : Addr} {od32 an32 : Option Addr} {sl32 : Array (Option Value)} {oc32 kV32 dc32 pm32 cd32 ct32 : Value}
    {f33 : Addr} {od33 an33 : Option Addr} {sl33 : Array (Option Value)} {oc33 kV33 dc33 pm33 cd33 ct33 : Value}
    {f34 : Addr} {od34 an34 : Option Addr} {sl34 : Array (Option Value)} {oc34 kV34 dc34 pm34 cd34 ct34 : Value}
    {f35 : Addr} {od35 an35 : Option Addr} {sl35 : Array (Option Value)} {oc35 kV35 dc35 pm35 cd35 ct35 : Value}
    {f36 : Addr} {od36 an36 : Option Addr} {sl36 : Array (Option Value)} {oc36 kV36 dc36 pm36 cd36 ct36 : Value}
    {f37 : Addr} {od37 an37 : Option Addr} {sl37 : Array (Option Value)} {oc37 kV37 dc37 pm37 cd37 ct37 : Value}
    {f38 : Addr} {od38 an38 : Option Addr} {sl38 : Array (Option Value)} {oc38 kV38 dc38 pm38 cd38 ct38 : Value}
    {f39 : Addr} {od39 an39 : Option Addr} {sl39 : Array (Option Value)} {oc39 kV39 dc39 pm39 cd39 ct39 : Value}
    {f40 : Addr} {od40 an40 : Option Addr} {sl40 : Array (Option Value)} {oc40 kV40 dc40 pm40 cd40 ct40 : Value}
    {f41 : Addr} {od41 an41 : Option Addr} {sl41 : Array (Option Value)} {oc41 kV41 dc41 pm41 cd41 ct41 : Value}
    {C_Program : Addr}
    {C_Saying : Addr}
    {a_SHAPES : Addr} {es_SHAPES : Array DictEntry} {n_SHAPES : Nat} {tt_SHAPES_0 : Addr} {to_SHAPES_0 : Option Addr} {ti_SHAPES_0 : Array Value} {tn_SHAPES_0 : Nat} {ts_SHAPES_0 : Array (Option Value)} {tt_SHAPES_1 : Addr} {to_SHAPES_1 : Option Addr} {ti_SHAPES_1 : Array Value} {tn_SHAPES_1 : Nat} {ts_SHAPES_1 : Array (Option Value)} {tt_SHAPES_2 : Addr} {to_SHAPES_2 : Option Addr} {ti_SHAPES_2 : Array Value} {tn_SHAPES_2 : Nat} {ts_SHAPES_2 : Array (Option Value)} {tt_SHAPES_3 : Addr} {to_SHAPES_3 : Option Addr} {ti_SHAPES_3 : Array Value} {tn_SHAPES_3 : Nat} {ts_SHAPES_3 : Array (Option Value)} {tt_SHAPES_4 : Addr} {to_SHAPES_4 : Option Addr} {ti_SHAPES_4 : Array Value} {tn_SHAPES_4 : Nat} {ts_SHAPES_4 : Array (Option Value)}
    {t_MOST_BOXES : Tok}
    {t_MOST_ROWS : Tok}
    {a_WORDS : Addr} {es_WORDS : Array DictEntry} {n_WORDS : Nat} {tv_WORDS_0 : Tok} {tv_WORDS_1 : Tok}
    {a_TWO : Addr} {to_TWO : Option Addr} {ti_TWO : Array Value} {tn_TWO : Nat} {ts_TWO : Array (Option Value)}
    {a_ONE : Addr} {to_ONE : Option Addr} {ti_ONE : Array Value} {tn_ONE : Nat} {ts_ONE : Array (Option Value)}
    (g_Program : PySem.W.nsIn K mainGlobals "Program" = some (some (.ref C_Program)))
    (mk_Program : PySem.W.makesIn K C_Program = true)
    (kc_Program : PySem.W.keepIn K (.ref C_Program) = true)
    (pg_Program : PySem.W.plainGet K C_Program Str.empty = true)
    (hd_Program : PySem.W.hasDictIn K C_Program = true)
    (po_Program : PySem.W.plainOver K C_Program = true)
    (sa_Program : PySem.W.findIn K (.ref C_Program) "__setattr__" = some (some (.builtin "object.__setattr__")))
    (o1_Program : PySem.W.findIn K (.ref C_Program) "__ne__" = some (some (.builtin "object.__ne__")))
    (o2_Program : PySem.W.mroIn K C_Program (.type "object") = some true)
    (o3_Program : PySem.W.findIn K (.ref C_Program) "__class__" = some (some (.builtin "object.__class__")))
    (o6_Program : PySem.W.kitOne K (.ref C_Program) (.ref C_Program) = some true)
    (na_Program_boxes : PySem.W.findIn K (.ref C_Program) "boxes" = some none)
    (na_Program_rows : PySem.W.findIn K (.ref C_Program) "rows" = some none)
    (g_Saying : PySem.W.nsIn K mainGlobals "Saying" = some (some (.ref C_Saying)))
    (mk_Saying : PySem.W.makesIn K C_Saying = true)
    (kc_Saying : PySem.W.keepIn K (.ref C_Saying) = true)
    (pg_Saying : PySem.W.plainGet K C_Saying Str.empty = true)
    (hd_Saying : PySem.W.hasDictIn K C_Saying = true)
    (po_Saying : PySem.W.plainOver K C_Saying = true)
    (sa_Saying : PySem.W.findIn K (.ref C_Saying) "__setattr__" = some (some (.builtin "object.__setattr__")))
    (o1_Saying : PySem.W.findIn K (.ref C_Saying) "__ne__" = some (some (.builtin "object.__ne__")))
    (o2_Saying : PySem.W.mroIn K C_Saying (.type "object") = some true)
    (o3_Saying : PySem.W.findIn K (.ref C_Saying) "__class__" = some (some (.builtin "object.__class__")))
    (o6_Saying : PySem.W.kitOne K (.ref C_Saying) (.ref C_Saying) = some true)
    (na_Saying_word : PySem.W.findIn K (.ref C_Saying) "word" = some none)
    (na_Saying_left : PySem.W.findIn K (.ref C_Saying) "left" = some none)
    (na_Saying_right : PySem.W.findIn K (.ref C_Saying) "right" = some none)
    (o4 : PySem.W.specialIn K (.builtin "object.__class__") "__get__" = some (some (.builtin "getset_descriptor.__get__")))
    (o5 : PySem.W.takesIn K (.builtin "object.__class__") = some true)
    (a0 : PySem.W.nsIn K mainGlobals "_law_box" = some (some (.ref f0)))
    (l0 : K.lookup f0 = some ⟨oc0, od0, .func (PySem.W.fnOf "_law_box" "_law_box" (defArgs s_f_law_box) (defBody s_f_law_box) (defScope s_f_law_box) .none kV0 dc0 pm0 an0 cd0 ct0), sl0⟩)
    (c0 : PySem.W.codeIn K cd0 "_law_box" = true)
    (k0 : PySem.W.keepIn K (.ref f0) = true)
    (a1 : PySem.W.nsIn K mainGlobals "_law_take" = some (some (.ref f1)))
    (l1 : K.lookup f1 = some ⟨oc1, od1, .func (PySem.W.fnOf "_law_take" "_law_take" (defArgs s_f_law_take) (defBody s_f_law_take) (defScope s_f_law_take) .none kV1 dc1 pm1 an1 cd1 ct1), sl1⟩)
    (c1 : PySem.W.codeIn K cd1 "_law_take" = true)
    (k1 : PySem.W.keepIn K (.ref f1) = true)
    (a2 : PySem.W.nsIn K mainGlobals "_law_piece" = some (some (.ref f2)))
    (l2 : K.lookup f2 = some ⟨oc2, od2, .func (PySem.W.fnOf "_law_piece" "_law_piece" (defArgs s_f_law_piece) (defBody s_f_law_piece) (defScope s_f_law_piece) .none kV2 dc2 pm2 an2 cd2 ct2), sl2⟩)
    (c2 : PySem.W.codeIn K cd2 "_law_piece" = true)
    (k2 : PySem.W.keepIn K (.ref f2) = true)
    (a3 : PySem.W.nsIn K mainGlobals "_law_ending_rows" = some (some (.ref f3)))
    (l3 : K.lookup f3 = some ⟨oc3, od3, .func (PySem.W.fnOf "_law_ending_rows" "_law_ending_rows" (defArgs s_f_law_ending_rows) (defBody s_f_law_ending_rows) (defScope s_f_law_ending_rows) .none kV3 dc3 pm3 an3 cd3 ct3), sl3⟩)
    (c3 : PySem.W.codeIn K cd3 "_law_ending_rows" = true)
    (k3 : PySem.W.keepIn K (.ref f3) = true)
    (a4 : PySem.W.nsIn K mainGlobals "_law_row" = some (some (.ref f4)))
    (l4 : K.lookup f4 = some ⟨oc4, od4, .func (PySem.W.fnOf "_law_row" "_law_row" (defArgs s_f_law_row) (defBody s_f_law_row) (defScope s_f_law_row) .none kV4 dc4 pm4 an4 cd4 ct4), sl4⟩)
    (c4 : PySem.W.codeIn K cd4 "_law_row" = true)
    (k4 : PySem.W.keepIn K (.ref f4) = true)
    (a5 : PySem.W.nsIn K mainGlobals "_law_any_rows" = some (some (.ref f5)))
    (l5 : K.lookup f5 = some ⟨oc5, od5, .func (PySem.W.fnOf "_law_any_rows" "_law_any_rows" (defArgs s_f_law_any_rows) (defBody s_f_law_any_rows) (defScope s_f_law_any_rows) .none kV5 dc5 pm5 an5 cd5 ct5), sl5⟩)
    (c5 : PySem.W.codeIn K cd5 "_law_any_rows" = true)
    (k5 : PySem.W.keepIn K (.ref f5) = true)
    (a6 : PySem.W.nsIn K mainGlobals "_law_some_program" = some (some (.ref f6)))
    (l6 : K.lookup f6 = some ⟨oc6, od6, .func (PySem.W.fnOf "_law_some_program" "_law_some_program" (defArgs s_f_law_some_program) (defBody s_f_law_some_program) (defScope s_f_law_some_program) .none kV6 dc6 pm6 an6 cd6 ct6), sl6⟩)
    (c6 : PySem.W.codeIn K cd6 "_law_some_program" = true)
    (k6 : PySem.W.keepIn K (.ref f6) = true)
    (a7 : PySem.W.nsIn K mainGlobals "_law_begin" = some (some (.ref f7)))
    (l7 : K.lookup f7 = some ⟨oc7, od7, .func (PySem.W.fnOf "_law_begin" "_law_begin" (defArgs s_f_law_begin) (defBody s_f_law_begin) (defScope s_f_law_begin) .none kV7 dc7 pm7 an7 cd7 ct7), sl7⟩)
    (c7 : PySem.W.codeIn K cd7 "_law_begin" = true)
    (k7 : PySem.W.keepIn K (.ref f7) = true)
    (a8 : PySem.W.nsIn K mainGlobals "_law_after" = some (some (.ref f8)))
    (l8 : K.lookup f8 = some ⟨oc8, od8, .func (PySem.W.fnOf "_law_after" "_law_after" (defArgs s_f_law_after) (defBody s_f_law_after) (defScope s_f_law_after) .none kV8 dc8 pm8 an8 cd8 ct8), sl8⟩)
    (c8 : PySem.W.codeIn K cd8 "_law_after" = true)
    (k8 : PySem.W.keepIn K (.ref f8) = true)
    (a9 : PySem.W.nsIn K mainGlobals "_law_run" = some (some (.ref f9)))
    (l9 : K.lookup f9 = some ⟨oc9, od9, .func (PySem.W.fnOf "_law_run" "_law_run" (defArgs s_f_law_run) (defBody s_f_law_run) (defScope s_f_law_run) .none kV9 dc9 pm9 an9 cd9 ct9), sl9⟩)
    (c9 : PySem.W.codeIn K cd9 "_law_run" = true)
    (k9 : PySem.W.keepIn K (.ref f9) = true)
    (a10 : PySem.W.nsIn K mainGlobals "_law_stopping" = some (some (.ref f10)))
    (l10 : K.lookup f10 = some ⟨oc10, od10, .func (PySem.W.fnOf "_law_stopping" "_law_stopping" (defArgs s_f_law_stopping) (defBody s_f_law_stopping) (defScope s_f_law_stopping) .none kV10 dc10 pm10 an10 cd10 ct10), sl10⟩)
    (c10 : PySem.W.codeIn K cd10 "_law_stopping" = true)
    (k10 : PySem.W.keepIn K (.ref f10) = true)
    (a11 : PySem.W.nsIn K mainGlobals "is_whole" = some (some (.ref f11)))
    (l11 : K.lookup f11 = some ⟨oc11, od11, .func (PySem.W.fnOf "is_whole" "is_whole" (defArgs s_f_is_whole) (defBody s_f_is_whole) (defScope s_f_is_whole) .none kV11 dc11 pm11 an11 cd11 ct11), sl11⟩)
    (c11 : PySem.W.codeIn K cd11 "is_whole" = true)
    (k11 : PySem.W.keepIn K (.ref f11) = true)
    (a12 : PySem.W.nsIn K mainGlobals "is_formed" = some (some (.ref f12)))
    (l12 : K.lookup f12 = some ⟨oc12, od12, .func (PySem.W.fnOf "is_formed" "is_formed" (defArgs s_f_is_formed) (defBody s_f_is_formed) (defScope s_f_is_formed) .none kV12 dc12 pm12 an12 cd12 ct12), sl12⟩)
    (c12 : PySem.W.codeIn K cd12 "is_formed" = true)
    (k12 : PySem.W.keepIn K (.ref f12) = true)
    (a13 : PySem.W.nsIn K mainGlobals "check_row" = some (some (.ref f13)))
    (l13 : K.lookup f13 = some ⟨oc13, od13, .func (PySem.W.fnOf "check_row" "check_row" (defArgs s_f_check_row) (defBody s_f_check_row) (defScope s_f_check_row) .none kV13 dc13 pm13 an13 cd13 ct13), sl13⟩)
    (c13 : PySem.W.codeIn K cd13 "check_row" = true)
    (k13 : PySem.W.keepIn K (.ref f13) = true)
    (a14 : PySem.W.nsIn K mainGlobals "check" = some (some (.ref f14)))
    (l14 : K.lookup f14 = some ⟨oc14, od14, .func (PySem.W.fnOf "check" "check" (defArgs s_f_check) (defBody s_f_check) (defScope s_f_check) .none kV14 dc14 pm14 an14 cd14 ct14), sl14⟩)
    (c14 : PySem.W.codeIn K cd14 "check" = true)
    (k14 : PySem.W.keepIn K (.ref f14) = true)
    (a15 : PySem.W.findIn K (.ref C_Program) "__init__" = some (some (.ref f15)))
    (i15 : PySem.W.isFn K (.ref f15) = true)
    (l15 : K.lookup f15 = some ⟨oc15, od15, .func (PySem.W.fnOf "__init__" "Program.__init__" (defArgs s_f_Program__init) (defBody s_f_Program__init) (defScope s_f_Program__init) .none kV15 dc15 pm15 an15 cd15 ct15), sl15⟩)
    (c15 : PySem.W.codeIn K cd15 "Program.__init__" = true)
    (k15 : PySem.W.keepIn K (.ref f15) = true)
    (a16 : PySem.W.findIn K (.ref C_Program) "__len__" = some (some (.ref f16)))
    (i16 : PySem.W.isFn K (.ref f16) = true)
    (l16 : K.lookup f16 = some ⟨oc16, od16, .func (PySem.W.fnOf "__len__" "Program.__len__" (defArgs s_f_Program__len) (defBody s_f_Program__len) (defScope s_f_Program__len) .none kV16 dc16 pm16 an16 cd16 ct16), sl16⟩)
    (c16 : PySem.W.codeIn K cd16 "Program.__len__" = true)
    (k16 : PySem.W.keepIn K (.ref f16) = true)
    (a17 : PySem.W.nsIn K mainGlobals "c_for" = some (some (.ref f17)))
    (l17 : K.lookup f17 = some ⟨oc17, od17, .func (PySem.W.fnOf "c_for" "c_for" (defArgs s_f_c_for) (defBody s_f_c_for) (defScope s_f_c_for) .none kV17 dc17 pm17 an17 cd17 ct17), sl17⟩)
    (c17 : PySem.W.codeIn K cd17 "c_for" = true)
    (k17 : PySem.W.keepIn K (.ref f17) = true)
    (a18 : PySem.W.nsIn K mainGlobals "with_more" = some (some (.ref f18)))
    (l18 : K.lookup f18 = some ⟨oc18, od18, .func (PySem.W.fnOf "with_more" "with_more" (defArgs s_f_with_more) (defBody s_f_with_more) (defScope s_f_with_more) .none kV18 dc18 pm18 an18 cd18 ct18), sl18⟩)
    (c18 : PySem.W.codeIn K cd18 "with_more" = true)
    (k18 : PySem.W.keepIn K (.ref f18) = true)
    (a19 : PySem.W.nsIn K mainGlobals "goal_of" = some (some (.ref f19)))
    (l19 : K.lookup f19 = some ⟨oc19, od19, .func (PySem.W.fnOf "goal_of" "goal_of" (defArgs s_f_goal_of) (defBody s_f_goal_of) (defScope s_f_goal_of) .none kV19 dc19 pm19 an19 cd19 ct19), sl19⟩)
    (c19 : PySem.W.codeIn K cd19 "goal_of" = true)
    (k19 : PySem.W.keepIn K (.ref f19) = true)
    (a20 : PySem.W.nsIn K mainGlobals "step_from" = some (some (.ref f20)))
    (l20 : K.lookup f20 = some ⟨oc20, od20, .func (PySem.W.fnOf "step_from" "step_from" (defArgs s_f_step_from) (defBody s_f_step_from) (defScope s_f_step_from) .none kV20 dc20 pm20 an20 cd20 ct20), sl20⟩)
    (c20 : PySem.W.codeIn K cd20 "step_from" = true)
    (k20 : PySem.W.keepIn K (.ref f20) = true)
    (a21 : PySem.W.nsIn K mainGlobals "ran" = some (some (.ref f21)))
    (l21 : K.lookup f21 = some ⟨oc21, od21, .func (PySem.W.fnOf "ran" "ran" (defArgs s_f_ran) (defBody s_f_ran) (defScope s_f_ran) (.ref dT21) kV21 dc21 pm21 an21 cd21 ct21), sl21⟩)
    (dl21 : K.lookup dT21 = some ⟨dtc21, dtd21, .seq dti21 dtn21, dts21⟩)
    (dv21 : Vals [V.int 200] dti21.toList)
    (c21 : PySem.W.codeIn K cd21 "ran" = true)
    (k21 : PySem.W.keepIn K (.ref f21) = true)
    (a22 : PySem.W.nsIn K mainGlobals "stopped_run" = some (some (.ref f22)))
    (l22 : K.lookup f22 = some ⟨oc22, od22, .func (PySem.W.fnOf "stopped_run" "stopped_run" (defArgs s_f_stopped_run) (defBody s_f_stopped_run) (defScope s_f_stopped_run) .none kV22 dc22 pm22 an22 cd22 ct22), sl22⟩)
    (c22 : PySem.W.codeIn K cd22 "stopped_run" = true)
    (k22 : PySem.W.keepIn K (.ref f22) = true)
    (a23 : PySem.W.nsIn K mainGlobals "least_c" = some (some (.ref f23)))
    (l23 : K.lookup f23 = some ⟨oc23, od23, .func (PySem.W.fnOf "least_c" "least_c" (defArgs s_f_least_c) (defBody s_f_least_c) (defScope s_f_least_c) (.ref dT23) kV23 dc23 pm23 an23 cd23 ct23), sl23⟩)
    (dl23 : K.lookup dT23 = some ⟨dtc23, dtd23, .seq dti23 dtn23, dts23⟩)
    (dv23 : Vals [V.int 200] dti23.toList)
    (c23 : PySem.W.codeIn K cd23 "least_c" = true)
    (k23 : PySem.W.keepIn K (.ref f23) = true)
    (a24 : PySem.W.nsIn K mainGlobals "sum_of" = some (some (.ref f24)))
    (l24 : K.lookup f24 = some ⟨oc24, od24, .func (PySem.W.fnOf "sum_of" "sum_of" (defArgs s_f_sum_of) (defBody s_f_sum_of) (defScope s_f_sum_of) .none kV24 dc24 pm24 an24 cd24 ct24), sl24⟩)
    (c24 : PySem.W.codeIn K cd24 "sum_of" = true)
    (k24 : PySem.W.keepIn K (.ref f24) = true)
    (a25 : PySem.W.nsIn K mainGlobals "named" = some (some (.ref f25)))
    (l25 : K.lookup f25 = some ⟨oc25, od25, .func (PySem.W.fnOf "named" "named" (defArgs s_f_named) (defBody s_f_named) (defScope s_f_named) (.ref dT25) kV25 dc25 pm25 an25 cd25 ct25), sl25⟩)
    (dl25 : K.lookup dT25 = some ⟨dtc25, dtd25, .seq dti25 dtn25, dts25⟩)
    (dv25 : Vals [V.str ""] dti25.toList)
    (c25 : PySem.W.codeIn K cd25 "named" = true)
    (k25 : PySem.W.keepIn K (.ref f25) = true)
    (a26 : PySem.W.findIn K (.ref C_Saying) "__init__" = some (some (.ref f26)))
    (i26 : PySem.W.isFn K (.ref f26) = true)
    (l26 : K.lookup f26 = some ⟨oc26, od26, .func (PySem.W.fnOf "__init__" "Saying.__init__" (defArgs s_f_Saying__init) (defBody s_f_Saying__init) (defScope s_f_Saying__init) .none kV26 dc26 pm26 an26 cd26 ct26), sl26⟩)
    (c26 : PySem.W.codeIn K cd26 "Saying.__init__" = true)
    (k26 : PySem.W.keepIn K (.ref f26) = true)
    (a27 : PySem.W.nsIn K mainGlobals "power_at" = some (some (.ref f27)))
    (l27 : K.lookup f27 = some ⟨oc27, od27, .func (PySem.W.fnOf "power_at" "power_at" (defArgs s_f_power_at) (defBody s_f_power_at) (defScope s_f_power_at) .none kV27 dc27 pm27 an27 cd27 ct27), sl27⟩)
    (c27 : PySem.W.codeIn K cd27 "power_at" = true)
    (k27 : PySem.W.keepIn K (.ref f27) = true)
    (a28 : PySem.W.nsIn K mainGlobals "top" = some (some (.ref f28)))
    (l28 : K.lookup f28 = some ⟨oc28, od28, .func (PySem.W.fnOf "top" "top" (defArgs s_f_top) (defBody s_f_top) (defScope s_f_top) .none kV28 dc28 pm28 an28 cd28 ct28), sl28⟩)
    (c28 : PySem.W.codeIn K cd28 "top" = true)
    (k28 : PySem.W.keepIn K (.ref f28) = true)
    (a29 : PySem.W.nsIn K mainGlobals "base_sayings" = some (some (.ref f29)))
    (l29 : K.lookup f29 = some ⟨oc29, od29, .func (PySem.W.fnOf "base_sayings" "base_sayings" (defArgs s_f_base_sayings) (defBody s_f_base_sayings) (defScope s_f_base_sayings) .none kV29 dc29 pm29 an29 cd29 ct29), sl29⟩)
    (c29 : PySem.W.codeIn K cd29 "base_sayings" = true)
    (k29 : PySem.W.keepIn K (.ref f29) = true)
    (a30 : PySem.W.nsIn K mainGlobals "asked_boxes" = some (some (.ref f30)))
    (l30 : K.lookup f30 = some ⟨oc30, od30, .func (PySem.W.fnOf "asked_boxes" "asked_boxes" (defArgs s_f_asked_boxes) (defBody s_f_asked_boxes) (defScope s_f_asked_boxes) .none kV30 dc30 pm30 an30 cd30 ct30), sl30⟩)
    (c30 : PySem.W.codeIn K cd30 "asked_boxes" = true)
    (k30 : PySem.W.keepIn K (.ref f30) = true)
    (a31 : PySem.W.nsIn K mainGlobals "rows_named" = some (some (.ref f31)))
    (l31 : K.lookup f31 = some ⟨oc31, od31, .func (PySem.W.fnOf "rows_named" "rows_named" (defArgs s_f_rows_named) (defBody s_f_rows_named) (defScope s_f_rows_named) .none kV31 dc31 pm31 an31 cd31 ct31), sl31⟩)
    (c31 : PySem.W.codeIn K cd31 "rows_named" = true)
    (k31 : PySem.W.keepIn K (.ref f31) = true)
    (a32 : PySem.W.nsIn K mainGlobals "time_sayings" = some (some (.ref f32)))
    (l32 : K.lookup f32 = some ⟨oc32, od32, .func (PySem.W.fnOf "time_sayings" "time_sayings" (defArgs s_f_time_sayings) (defBody s_f_time_sayings) (defScope s_f_time_sayings) .none kV32 dc32 pm32 an32 cd32 ct32), sl32⟩)
    (c32 : PySem.W.codeIn K cd32 "time_sayings" = true)
    (k32 : PySem.W.keepIn K (.ref f32) = true)
    (a33 : PySem.W.nsIn K mainGlobals "row_sayings" = some (some (.ref f33)))
    (l33 : K.lookup f33 = some ⟨oc33, od33, .func (PySem.W.fnOf "row_sayings" "row_sayings" (defArgs s_f_row_sayings) (defBody s_f_row_sayings) (defScope s_f_row_sayings) .none kV33 dc33 pm33 an33 cd33 ct33), sl33⟩)
    (c33 : PySem.W.codeIn K cd33 "row_sayings" = true)
    (k33 : PySem.W.keepIn K (.ref f33) = true)
    (a34 : PySem.W.nsIn K mainGlobals "moves_of" = some (some (.ref f34)))
    (l34 : K.lookup f34 = some ⟨oc34, od34, .func (PySem.W.fnOf "moves_of" "moves_of" (defArgs s_f_moves_of) (defBody s_f_moves_of) (defScope s_f_moves_of) .none kV34 dc34 pm34 an34 cd34 ct34), sl34⟩)
    (c34 : PySem.W.codeIn K cd34 "moves_of" = true)
    (k34 : PySem.W.keepIn K (.ref f34) = true)
    (a35 : PySem.W.nsIn K mainGlobals "box_saying" = some (some (.ref f35)))
    (l35 : K.lookup f35 = some ⟨oc35, od35, .func (PySem.W.fnOf "box_saying" "box_saying" (defArgs s_f_box_saying) (defBody s_f_box_saying) (defScope s_f_box_saying) .none kV35 dc35 pm35 an35 cd35 ct35), sl35⟩)
    (c35 : PySem.W.codeIn K cd35 "box_saying" = true)
    (k35 : PySem.W.keepIn K (.ref f35) = true)
    (a36 : PySem.W.nsIn K mainGlobals "sayings_of" = some (some (.ref f36)))
    (l36 : K.lookup f36 = some ⟨oc36, od36, .func (PySem.W.fnOf "sayings_of" "sayings_of" (defArgs s_f_sayings_of) (defBody s_f_sayings_of) (defScope s_f_sayings_of) .none kV36 dc36 pm36 an36 cd36 ct36), sl36⟩)
    (c36 : PySem.W.codeIn K cd36 "sayings_of" = true)
    (k36 : PySem.W.keepIn K (.ref f36) = true)
    (a37 : PySem.W.nsIn K mainGlobals "_law_asked" = some (some (.ref f37)))
    (l37 : K.lookup f37 = some ⟨oc37, od37, .func (PySem.W.fnOf "_law_asked" "_law_asked" (defArgs s_f_law_asked) (defBody s_f_law_asked) (defScope s_f_law_asked) .none kV37 dc37 pm37 an37 cd37 ct37), sl37⟩)
    (c37 : PySem.W.codeIn K cd37 "_law_asked" = true)
    (k37 : PySem.W.keepIn K (.ref f37) = true)
    (a38 : PySem.W.nsIn K mainGlobals "_law_answer" = some (some (.ref f38)))
    (l38 : K.lookup f38 = some ⟨oc38, od38, .func (PySem.W.fnOf "_law_answer" "_law_answer" (defArgs s_f_law_answer) (defBody s_f_law_answer) (defScope s_f_law_answer) .none kV38 dc38 pm38 an38 cd38 ct38), sl38⟩)
    (c38 : PySem.W.codeIn K cd38 "_law_answer" = true)
    (k38 : PySem.W.keepIn K (.ref f38) = true)
    (a39 : PySem.W.nsIn K mainGlobals "_law_worth" = some (some (.ref f39)))
    (l39 : K.lookup f39 = some ⟨oc39, od39, .func (PySem.W.fnOf "_law_worth" "_law_worth" (defArgs s_f_law_worth) (defBody s_f_law_worth) (defScope s_f_law_worth) .none kV39 dc39 pm39 an39 cd39 ct39), sl39⟩)
    (c39 : PySem.W.codeIn K cd39 "_law_worth" = true)
    (k39 : PySem.W.keepIn K (.ref f39) = true)
    (a40 : PySem.W.nsIn K mainGlobals "_law_holds" = some (some (.ref f40)))
    (l40 : K.lookup f40 = some ⟨oc40, od40, .func (PySem.W.fnOf "_law_holds" "_law_holds" (defArgs s_f_law_holds) (defBody s_f_law_holds) (defScope s_f_law_holds) .none kV40 dc40 pm40 an40 cd40 ct40), sl40⟩)
    (c40 : PySem.W.codeIn K cd40 "_law_holds" = true)
    (k40 : PySem.W.keepIn K (.ref f40) = true)
    (a41 : PySem.W.nsIn K mainGlobals "law" = some (some (.ref f41)))
    (l41 : K.lookup f41 = some ⟨oc41, od41, .func (PySem.W.fnOf "law" "law" (defArgs s_f_law) (defBody s_f_law) (defScope s_f_law) .none kV41 dc41 pm41 an41 cd41 ct41), sl41⟩)
    (c41 : PySem.W.codeIn K cd41 "law" = true)
    (k41 : PySem.W.keepIn K (.ref f41) = true)
    (z_len : PySem.W.nsIn K mainGlobals "len" = some none)
    (z_int : PySem.W.nsIn K mainGlobals "int" = some none)
    (z_range : PySem.W.nsIn K mainGlobals "range" = some none)
    (z_tuple : PySem.W.nsIn K mainGlobals "tuple" = some none)
    (z_isinstance : PySem.W.nsIn K mainGlobals "isinstance" = some none)
    (z_bool : PySem.W.nsIn K mainGlobals "bool" = some none)
    (z_all : PySem.W.nsIn K mainGlobals "all" = some none)
    (z_zip : PySem.W.nsIn K mainGlobals "zip" = some none)
    (z_enumerate : PySem.W.nsIn K mainGlobals "enumerate" = some none)
    (z_max : PySem.W.nsIn K mainGlobals "max" = some none)
    (z_sum : PySem.W.nsIn K mainGlobals "sum" = some none)
    (z_sorted : PySem.W.nsIn K mainGlobals "sorted" = some none)
    (z_list : PySem.W.nsIn K mainGlobals "list" = some none)
    (z_dict : PySem.W.nsIn K mainGlobals "dict" = some none)
    (z_str : PySem.W.nsIn K mainGlobals "str" = some none)
    (z_min : PySem.W.nsIn K mainGlobals "min" = some none)
    (y_SHAPES : PySem.W.nsIn K mainGlobals "SHAPES" = some (some (.ref a_SHAPES)))
    (ld_SHAPES : K.lookup a_SHAPES = some ⟨.type "dict", none, .dict es_SHAPES n_SHAPES, #[]⟩)
    (kl_SHAPES : PySem.W.KeysLit w.params es_SHAPES.toList)
    (sm_SHAPES : (a_SHAPES == sysModules) = false)
    (v_SHAPES_0 : PySem.W.nsIn K a_SHAPES "raise" = some (some (.ref tt_SHAPES_0)))
    (lt_SHAPES_0 : K.lookup tt_SHAPES_0 = some ⟨.type "tuple", to_SHAPES_0, .seq ti_SHAPES_0 tn_SHAPES_0, ts_SHAPES_0⟩)
    (vt_SHAPES_0 : ti_SHAPES_0.size ≤ sizeLine ∧ Vals ([Str.ofString "box"].map V.str) ti_SHAPES_0.toList)
    (v_SHAPES_1 : PySem.W.nsIn K a_SHAPES "lower" = some (some (.ref tt_SHAPES_1)))
    (lt_SHAPES_1 : K.lookup tt_SHAPES_1 = some ⟨.type "tuple", to_SHAPES_1, .seq ti_SHAPES_1 tn_SHAPES_1, ts_SHAPES_1⟩)
    (vt_SHAPES_1 : ti_SHAPES_1.size ≤ sizeLine ∧ Vals ([Str.ofString "box"].map V.str) ti_SHAPES_1.toList)
    (v_SHAPES_2 : PySem.W.nsIn K a_SHAPES "if" = some (some (.ref tt_SHAPES_2)))
    (lt_SHAPES_2 : K.lookup tt_SHAPES_2 = some ⟨.type "tuple", to_SHAPES_2, .seq ti_SHAPES_2 tn_SHAPES_2, ts_SHAPES_2⟩)
    (vt_SHAPES_2 : ti_SHAPES_2.size ≤ sizeLine ∧ Vals ([Str.ofString "box", Str.ofString "goal"].map V.str) ti_SHAPES_2.toList)
    (v_SHAPES_3 : PySem.W.nsIn K a_SHAPES "go" = some (some (.ref tt_SHAPES_3)))
    (lt_SHAPES_3 : K.lookup tt_SHAPES_3 = some ⟨.type "tuple", to_SHAPES_3, .seq ti_SHAPES_3 tn_SHAPES_3, ts_SHAPES_3⟩)
    (vt_SHAPES_3 : ti_SHAPES_3.size ≤ sizeLine ∧ Vals ([Str.ofString "goal"].map V.str) ti_SHAPES_3.toList)
    (v_SHAPES_4 : PySem.W.nsIn K a_SHAPES "stop" = some (some (.ref tt_SHAPES_4)))
    (lt_SHAPES_4 : K.lookup tt_SHAPES_4 = some ⟨.type "tuple", to_SHAPES_4, .seq ti_SHAPES_4 tn_SHAPES_4, ts_SHAPES_4⟩)
    (vt_SHAPES_4 : ti_SHAPES_4.size ≤ sizeLine ∧ Vals ([].map V.str) ti_SHAPES_4.toList)
    (y_MOST_BOXES : PySem.W.nsIn K mainGlobals "MOST_BOXES" = some (some (.int 5 t_MOST_BOXES)))
    (y_MOST_ROWS : PySem.W.nsIn K mainGlobals "MOST_ROWS" = some (some (.int 14 t_MOST_ROWS)))
    (y_WORDS : PySem.W.nsIn K mainGlobals "WORDS" = some (some (.ref a_WORDS)))
    (ld_WORDS : K.lookup a_WORDS = some ⟨.type "dict", none, .dict es_WORDS n_WORDS, #[]⟩)
    (kl_WORDS : PySem.W.KeysLit w.params es_WORDS.toList)
    (sm_WORDS : (a_WORDS == sysModules) = false)
    (v_WORDS_0 : PySem.W.nsIn K a_WORDS "same" = some (some (.str "=" tv_WORDS_0)))
    (v_WORDS_1 : PySem.W.nsIn K a_WORDS "under" = some (some (.str "under" tv_WORDS_1)))
    (y_TWO : PySem.W.nsIn K mainGlobals "TWO" = some (some (.ref a_TWO)))
    (lt_TWO : K.lookup a_TWO = some ⟨.type "tuple", to_TWO, .seq ti_TWO tn_TWO, ts_TWO⟩)
    (vt_TWO : ti_TWO.size ≤ sizeLine ∧ Vals [V.str "num", V.int 2] ti_TWO.toList)
    (y_ONE : PySem.W.nsIn K mainGlobals "ONE" = some (some (.ref a_ONE)))
    (lt_ONE : K.lookup a_ONE = some ⟨.type "tuple", to_ONE, .seq ti_ONE tn_ONE, ts_ONE⟩)
    (vt_ONE : ti_ONE.size ≤ sizeLine ∧ Vals [V.str "num", V.int 1] ti_ONE.toList)
    : ∃ fd : FuncData, (∀ (s : Shared) (v : Value), BindsTo s fd ⟨[v], []⟩ [("script", v)]) ∧ ∀ base : Heap, K.In base → base.Ns mainGlobals mg → FnG l.prog w K mg base CX0 43 fa fd ["script"] (sp_f_law K) := by
  have e := hfa.symm.trans (PySem.W.mg_of X G a41)
  cases e
  have m_len : mg "len" = none := PySem.W.mg_none_of X G z_len
  have m_int : mg "int" = none := PySem.W.mg_none_of X G z_int
  have m_range : mg "range" = none := PySem.W.mg_none_of X G z_range
  have m_tuple : mg "tuple" = none := PySem.W.mg_none_of X G z_tuple
  have m_isinstance : mg "isinstance" = none := PySem.W.mg_none_of X G z_isinstance
  have m_bool : mg "bool" = none := PySem.W.mg_none_of X G z_bool
  have m_all : mg "all" = none := PySem.W.mg_none_of X G z_all
  have m_zip : mg "zip" = none := PySem.W.mg_none_of X G z_zip
  have m_enumerate : mg "enumerate" = none := PySem.W.mg_none_of X G z_enumerate
  have m_max : mg "max" = none := PySem.W.mg_none_of X G z_max
  have m_sum : mg "sum" = none := PySem.W.mg_none_of X G z_sum
  have m_sorted : mg "sorted" = none := PySem.W.mg_none_of X G z_sorted
  have m_list : mg "list" = none := PySem.W.mg_none_of X G z_list
  have m_dict : mg "dict" = none := PySem.W.mg_none_of X G z_dict
  have m_str : mg "str" = none := PySem.W.mg_none_of X G z_str
  have m_min : mg "min" = none := PySem.W.mg_none_of X G z_min
  have c_SHAPES := PySem.W.mg_of X G y_SHAPES
  have d_SHAPES : KDt K w a_SHAPES [(Str.ofString "raise", [Str.ofString "box"]), (Str.ofString "lower", [Str.ofString "box"]), (Str.ofString "if", [Str.ofString "box", Str.ofString "goal"]), (Str.ofString "go", [Str.ofString "goal"]), (Str.ofString "stop", [])] := by
    refine ⟨sm_SHAPES, fun z hz => ?_⟩
    rcases List.mem_cons.mp hz with rfl | hz
    · exact ⟨tt_SHAPES_0, ⟨_, _, _, ld_SHAPES, kl_SHAPES, v_SHAPES_0, rfl⟩, fun H => .inr ⟨_, _, _, lt_SHAPES_0, rfl, rfl, vt_SHAPES_0.1, vt_SHAPES_0.2⟩⟩
    rcases List.mem_cons.mp hz with rfl | hz
    · exact ⟨tt_SHAPES_1, ⟨_, _, _, ld_SHAPES, kl_SHAPES, v_SHAPES_1, rfl⟩, fun H => .inr ⟨_, _, _, lt_SHAPES_1, rfl, rfl, vt_SHAPES_1.1, vt_SHAPES_1.2⟩⟩
    rcases List.mem_cons.mp hz with rfl | hz
    · exact ⟨tt_SHAPES_2, ⟨_, _, _, ld_SHAPES, kl_SHAPES, v_SHAPES_2, rfl⟩, fun H => .inr ⟨_, _, _, lt_SHAPES_2, rfl, rfl, vt_SHAPES_2.1, vt_SHAPES_2.2⟩⟩
    rcases List.mem_cons.mp hz with rfl | hz
    · exact ⟨tt_SHAPES_3, ⟨_, _, _, ld_SHAPES, kl_SHAPES, v_SHAPES_3, rfl⟩, fun H => .inr ⟨_, _, _, lt_SHAPES_3, rfl, rfl, vt_SHAPES_3.1, vt_SHAPES_3.2⟩⟩
    rcases List.mem_cons.mp hz with rfl | hz
    · exact ⟨tt_SHAPES_4, ⟨_, _, _, ld_SHAPES, kl_SHAPES, v_SHAPES_4, rfl⟩, fun H => .inr ⟨_, _, _, lt_SHAPES_4, rfl, rfl, vt_SHAPES_4.1, vt_SHAPES_4.2⟩⟩
    cases hz
  have c_MOST_BOXES := PySem.W.mg_of X G y_MOST_BOXES
  have c_MOST_ROWS := PySem.W.mg_of X G y_MOST_ROWS
  have c_WORDS := PySem.W.mg_of X G y_WORDS
  have d_WORDS : KDs K w a_WORDS ["same", "under"] := by
    refine ⟨sm_WORDS, fun z hz => ?_⟩
    rcases List.mem_cons.mp hz with rfl | hz
    · exact ⟨.str (Str.ofString "="), _, _, _, ld_WORDS, kl_WORDS, v_WORDS_0, ⟨_, rfl⟩⟩
    rcases List.mem_cons.mp hz with rfl | hz
    · exact ⟨.str (Str.ofString "under"), _, _, _, ld_WORDS, kl_WORDS, v_WORDS_1, ⟨_, rfl⟩⟩
    cases hz
  have c_TWO := PySem.W.mg_of X G y_TWO
  have d_TWO : ∀ H : Hp, SqT K H a_TWO [V.str "num", V.int 2] := fun H => .inr ⟨_, _, _, lt_TWO, rfl, rfl, vt_TWO.1, vt_TWO.2⟩
  have c_ONE := PySem.W.mg_of X G y_ONE
  have d_ONE : ∀ H : Hp, SqT K H a_ONE [V.str "num", V.int 1] := fun H => .inr ⟨_, _, _, lt_ONE, rfl, rfl, vt_ONE.1, vt_ONE.2⟩
  have SC_Program : ClsN K "Program" C_Program ["boxes", "rows"] := ⟨⟨⟨pg_Program, hd_Program, po_Program, sa_Program⟩, by
    intro f hf
    rcases List.mem_cons.mp hf with rfl | hf
    · exact na_Program_boxes
    rcases List.mem_cons.mp hf with rfl | hf
    · exact na_Program_rows
    cases hf⟩, g_Program⟩
  have OC_Program : ClsO K C_Program := ⟨o1_Program, o2_Program, o3_Program, o4, o5, o6_Program⟩
  have n_Program := PySem.W.mg_of X G g_Program
  have SC_Saying : ClsN K "Saying" C_Saying ["word", "left", "right"] := ⟨⟨⟨pg_Saying, hd_Saying, po_Saying, sa_Saying⟩, by
    intro f hf
    rcases List.mem_cons.mp hf with rfl | hf
    · exact na_Saying_word
    rcases List.mem_cons.mp hf with rfl | hf
    · exact na_Saying_left
    rcases List.mem_cons.mp hf with rfl | hf
    · exact na_Saying_right
    cases hf⟩, g_Saying⟩
  have OC_Saying : ClsO K C_Saying := ⟨o1_Saying, o2_Saying, o3_Saying, o4, o5, o6_Saying⟩
  have n_Saying := PySem.W.mg_of X G g_Saying
  have F0 := fun_mk (st := s_f_law_box) l0 c0 k0
  have F1 := fun_mk (st := s_f_law_take) l1 c1 k1
  have F2 := fun_mk (st := s_f_law_piece) l2 c2 k2
  have F3 := fun_mk (st := s_f_law_ending_rows) l3 c3 k3
  have F4 := fun_mk (st := s_f_law_row) l4 c4 k4
  have F5 := fun_mk (st := s_f_law_any_rows) l5 c5 k5
  have F6 := fun_mk (st := s_f_law_some_program) l6 c6 k6
  have F7 := fun_mk (st := s_f_law_begin) l7 c7 k7
  have F8 := fun_mk (st := s_f_law_after) l8 c8 k8
  have F9 := fun_mk (st := s_f_law_run) l9 c9 k9
  have F10 := fun_mk (st := s_f_law_stopping) l10 c10 k10
  have F11 := fun_mk (st := s_f_is_whole) l11 c11 k11
  have F12 := fun_mk (st := s_f_is_formed) l12 c12 k12
  have F13 := fun_mk (st := s_f_check_row) l13 c13 k13
  have F14 := fun_mk (st := s_f_check) l14 c14 k14
  have F15 := fun_mk (st := s_f_Program__init) l15 c15 k15
  have F16 := fun_mk (st := s_f_Program__len) l16 c16 k16
  have F17 := fun_mk (st := s_f_c_for) l17 c17 k17
  have F18 := fun_mk (st := s_f_with_more) l18 c18 k18
  have F19 := fun_mk (st := s_f_goal_of) l19 c19 k19
  have F20 := fun_mk (st := s_f_step_from) l20 c20 k20
  have F21 := fund_mk (st := s_f_ran) l21 c21 k21 dl21 dv21 (by intro h; cases h)
  have F22 := fun_mk (st := s_f_stopped_run) l22 c22 k22
  have F23 := fund_mk (st := s_f_least_c) l23 c23 k23 dl23 dv23 (by intro h; cases h)
  have F24 := fun_mk (st := s_f_sum_of) l24 c24 k24
  have F25 := fund_mk (st := s_f_named) l25 c25 k25 dl25 dv25 (by intro h; cases h)
  have F26 := fun_mk (st := s_f_Saying__init) l26 c26 k26
  have F27 := fun_mk (st := s_f_power_at) l27 c27 k27
  have F28 := fun_mk (st := s_f_top) l28 c28 k28
  have F29 := fun_mk (st := s_f_base_sayings) l29 c29 k29
  have F30 := fun_mk (st := s_f_asked_boxes) l30 c30 k30
  have F31 := fun_mk (st := s_f_rows_named) l31 c31 k31
  have F32 := fun_mk (st := s_f_time_sayings) l32 c32 k32
  have F33 := fun_mk (st := s_f_row_sayings) l33 c33 k33
  have F34 := fun_mk (st := s_f_moves_of) l34 c34 k34
  have F35 := fun_mk (st := s_f_box_saying) l35 c35 k35
  have F36 := fun_mk (st := s_f_sayings_of) l36 c36 k36
  have F37 := fun_mk (st := s_f_law_asked) l37 c37 k37
  have F38 := fun_mk (st := s_f_law_answer) l38 c38 k38
  have F39 := fun_mk (st := s_f_law_worth) l39 c39 k39
  have F40 := fun_mk (st := s_f_law_holds) l40 c40 k40
  have F41 := fun_mk (st := s_f_law) l41 c41 k41
  refine ⟨PySem.W.fnOf "law" "law" (defArgs s_f_law) (defBody s_f_law) (defScope s_f_law) .none kV41 dc41 pm41 an41 cd41 ct41, fun s v => .of_eq rfl, fun base _ _ => ?_⟩
  have O0 : FnG l.prog w K mg base CX0 1 f0 _ ["script", "k"] (sp_f_law_box K) := ok_f_law_box F0 m_len m_int
  have D_f_law_box : Def l.prog w K mg base CX0 "_law_box" 1 ["script", "k"] (sp_f_law_box K) := ⟨f0, _, PySem.W.mg_of X G a0, O0, k0, F0.binds (ps := ["script", "k"]) fun _ _ _ _ _ _ us hl => match us, hl with | [_, _], _ => rfl⟩
  have O1 : FnG l.prog w K mg base CX0 1 f1 _ ["box", "wide"] (sp_f_law_take K) := ok_f_law_take F1
  have D_f_law_take : Def l.prog w K mg base CX0 "_law_take" 1 ["box", "wide"] (sp_f_law_take K) := ⟨f1, _, PySem.W.mg_of X G a1, O1, k1, F1.binds (ps := ["box", "wide"]) fun _ _ _ _ _ _ us hl => match us, hl with | [_, _], _ => rfl⟩
  have O2 : FnG l.prog w K mg base CX0 2 f2 _ ["box", "boxes", "at"] (sp_f_law_piece K) := ok_f_law_piece F2 D_f_law_take m_range m_len m_int
  have D_f_law_piece : Def l.prog w K mg base CX0 "_law_piece" 2 ["box", "boxes", "at"] (sp_f_law_piece K) := ⟨f2, _, PySem.W.mg_of X G a2, O2, k2, F2.binds (ps := ["box", "boxes", "at"]) fun _ _ _ _ _ _ us hl => match us, hl with | [_, _, _], _ => rfl⟩
  have O3 : FnG l.prog w K mg base CX0 3 f3 _ ["box", "boxes"] (sp_f_law_ending_rows K) := ok_f_law_ending_rows F3 D_f_law_piece D_f_law_take m_range m_len
  have D_f_law_ending_rows : Def l.prog w K mg base CX0 "_law_ending_rows" 3 ["box", "boxes"] (sp_f_law_ending_rows K) := ⟨f3, _, PySem.W.mg_of X G a3, O3, k3, F3.binds (ps := ["box", "boxes"]) fun _ _ _ _ _ _ us hl => match us, hl with | [_, _], _ => rfl⟩
  have O4 : FnG l.prog w K mg base CX0 2 f4 _ ["box", "boxes", "many"] (sp_f_law_row K) := ok_f_law_row F4 D_f_law_take
  have D_f_law_row : Def l.prog w K mg base CX0 "_law_row" 2 ["box", "boxes", "many"] (sp_f_law_row K) := ⟨f4, _, PySem.W.mg_of X G a4, O4, k4, F4.binds (ps := ["box", "boxes", "many"]) fun _ _ _ _ _ _ us hl => match us, hl with | [_, _, _], _ => rfl⟩
  have O5 : FnG l.prog w K mg base CX0 3 f5 _ ["box", "boxes"] (sp_f_law_any_rows K) := ok_f_law_any_rows F5 D_f_law_take D_f_law_row m_range
  have D_f_law_any_rows : Def l.prog w K mg base CX0 "_law_any_rows" 3 ["box", "boxes"] (sp_f_law_any_rows K) := ⟨f5, _, PySem.W.mg_of X G a5, O5, k5, F5.binds (ps := ["box", "boxes"]) fun _ _ _ _ _ _ us hl => match us, hl with | [_, _], _ => rfl⟩
  have O6 : FnG l.prog w K mg base CX0 4 f6 _ ["box"] (sp_f_law_some_program K) := ok_f_law_some_program F6 D_f_law_take D_f_law_ending_rows D_f_law_any_rows
  have D_f_law_some_program : Def l.prog w K mg base CX0 "_law_some_program" 4 ["box"] (sp_f_law_some_program K) := ⟨f6, _, PySem.W.mg_of X G a6, O6, k6, F6.binds (ps := ["box"]) fun _ _ _ _ _ _ us hl => match us, hl with | [_], _ => rfl⟩
  have O7 : FnG l.prog w K mg base CX0 2 f7 _ ["box", "boxes"] (sp_f_law_begin K) := ok_f_law_begin F7 D_f_law_take m_range m_int
  have D_f_law_begin : Def l.prog w K mg base CX0 "_law_begin" 2 ["box", "boxes"] (sp_f_law_begin K) := ⟨f7, _, PySem.W.mg_of X G a7, O7, k7, F7.binds (ps := ["box", "boxes"]) fun _ _ _ _ _ _ us hl => match us, hl with | [_, _], _ => rfl⟩
  have O8 : FnG l.prog w K mg base CX0 1 f8 _ ["rows", "stand"] (sp_f_law_after K) := ok_f_law_after F8 m_int
  have D_f_law_after : Def l.prog w K mg base CX0 "_law_after" 1 ["rows", "stand"] (sp_f_law_after K) := ⟨f8, _, PySem.W.mg_of X G a8, O8, k8, F8.binds (ps := ["rows", "stand"]) fun _ _ _ _ _ _ us hl => match us, hl with | [_, _], _ => rfl⟩
  have O9 : FnG l.prog w K mg base CX0 2 f9 _ ["rows", "begin", "limit"] (sp_f_law_run K) := ok_f_law_run F9 D_f_law_after m_tuple m_len
  have D_f_law_run : Def l.prog w K mg base CX0 "_law_run" 2 ["rows", "begin", "limit"] (sp_f_law_run K) := ⟨f9, _, PySem.W.mg_of X G a9, O9, k9, F9.binds (ps := ["rows", "begin", "limit"]) fun _ _ _ _ _ _ us hl => match us, hl with | [_, _, _], _ => rfl⟩
  have O10 : FnG l.prog w K mg base CX0 5 f10 _ ["box", "limit"] (sp_f_law_stopping K) := ok_f_law_stopping F10 D_f_law_some_program D_f_law_begin D_f_law_run m_range m_tuple
  have D_f_law_stopping : Def l.prog w K mg base CX0 "_law_stopping" 5 ["box", "limit"] (sp_f_law_stopping K) := ⟨f10, _, PySem.W.mg_of X G a10, O10, k10, F10.binds (ps := ["box", "limit"]) fun _ _ _ _ _ _ us hl => match us, hl with | [_, _], _ => rfl⟩
  have O11 : FnG l.prog w K mg base CX0 1 f11 _ ["thing"] (sp_f_is_whole K) := ok_f_is_whole F11 m_isinstance m_int m_bool
  have D_f_is_whole : Def l.prog w K mg base CX0 "is_whole" 1 ["thing"] (sp_f_is_whole K) := ⟨f11, _, PySem.W.mg_of X G a11, O11, k11, F11.binds (ps := ["thing"]) fun _ _ _ _ _ _ us hl => match us, hl with | [_], _ => rfl⟩
  have O12 : FnG l.prog w K mg base CX0 2 f12 _ ["row"] (sp_f_is_formed K) := ok_f_is_formed F12 D_f_is_whole m_all m_len c_SHAPES d_SHAPES
  have D_f_is_formed : Def l.prog w K mg base CX0 "is_formed" 2 ["row"] (sp_f_is_formed K) := ⟨f12, _, PySem.W.mg_of X G a12, O12, k12, F12.binds (ps := ["row"]) fun _ _ _ _ _ _ us hl => match us, hl with | [_], _ => rfl⟩
  have O13 : FnG l.prog w K mg base CX0 3 f13 _ ["row", "boxes", "many", "at"] (sp_f_check_row K) := ok_f_check_row F13 D_f_is_formed m_zip m_int c_SHAPES d_SHAPES
  have D_f_check_row : Def l.prog w K mg base CX0 "check_row" 3 ["row", "boxes", "many", "at"] (sp_f_check_row K) := ⟨f13, _, PySem.W.mg_of X G a13, O13, k13, F13.binds (ps := ["row", "boxes", "many", "at"]) fun _ _ _ _ _ _ us hl => match us, hl with | [_, _, _, _], _ => rfl⟩
  have O14 : FnG l.prog w K mg base CX0 4 f14 _ ["boxes", "rows"] (sp_f_check K) := ok_f_check F14 D_f_check_row m_enumerate m_len c_MOST_BOXES c_MOST_ROWS
  have D_f_check : Def l.prog w K mg base CX0 "check" 4 ["boxes", "rows"] (sp_f_check K) := ⟨f14, _, PySem.W.mg_of X G a14, O14, k14, F14.binds (ps := ["boxes", "rows"]) fun _ _ _ _ _ _ us hl => match us, hl with | [_, _], _ => rfl⟩
  have O15 : FnG l.prog w K mg base CX0 5 f15 _ ["self", "boxes", "rows"] (sp_f_Program__init K) := ok_f_Program__init F15 D_f_check m_tuple
  have G_Program : DefM l.prog w K mg base CX0 "Program" 5 ["self", "boxes", "rows"] (sp_f_Program__init K) C_Program := ⟨f15, _, PySem.W.mg_of X G g_Program, ⟨mk_Program, a15, i15, kc_Program⟩, O15, F15.binds (ps := ["self", "boxes", "rows"]) fun _ _ _ _ _ _ us hl => match us, hl with | [_, _, _], _ => rfl⟩
  have O16 : FnG l.prog w K mg base CX0 1 f16 _ ["self"] (sp_f_Program__len K) := ok_f_Program__len F16 m_len
  have M_Program_len : DefO l.prog w K mg base CX0 C_Program "__len__" 1 ["self"] (sp_f_Program__len K) := ⟨f16, _, a16, i16, O16, F16.binds (ps := ["self"]) fun _ _ _ _ _ _ us hl => match us, hl with | [_], _ => rfl⟩
  have O17 : FnG l.prog w K mg base CX0 3 f17 _ ["program", "stands"] (sp_f_c_for K) := ok_f_c_for F17 M_Program_len SC_Program OC_Program m_max m_len m_sum
  have D_f_c_for : Def l.prog w K mg base CX0 "c_for" 3 ["program", "stands"] (sp_f_c_for K) := ⟨f17, _, PySem.W.mg_of X G a17, O17, k17, F17.binds (ps := ["program", "stands"]) fun _ _ _ _ _ _ us hl => match us, hl with | [_, _], _ => rfl⟩
  have O18 : FnG l.prog w K mg base CX0 1 f18 _ ["contents", "j", "more"] (sp_f_with_more K) := ok_f_with_more F18
  have D_f_with_more : Def l.prog w K mg base CX0 "with_more" 1 ["contents", "j", "more"] (sp_f_with_more K) := ⟨f18, _, PySem.W.mg_of X G a18, O18, k18, F18.binds (ps := ["contents", "j", "more"]) fun _ _ _ _ _ _ us hl => match us, hl with | [_, _, _], _ => rfl⟩
  have O19 : FnG l.prog w K mg base CX0 1 f19 _ ["program", "k"] (sp_f_goal_of K) := ok_f_goal_of F19
  have D_f_goal_of : Def l.prog w K mg base CX0 "goal_of" 1 ["program", "k"] (sp_f_goal_of K) := ⟨f19, _, PySem.W.mg_of X G a19, O19, k19, F19.binds (ps := ["program", "k"]) fun _ _ _ _ _ _ us hl => match us, hl with | [_, _], _ => rfl⟩
  have O20 : FnG l.prog w K mg base CX0 2 f20 _ ["program", "stand"] (sp_f_step_from K) := ok_f_step_from F20 D_f_with_more D_f_goal_of m_int
  have D_f_step_from : Def l.prog w K mg base CX0 "step_from" 2 ["program", "stand"] (sp_f_step_from K) := ⟨f20, _, PySem.W.mg_of X G a20, O20, k20, F20.binds (ps := ["program", "stand"]) fun _ _ _ _ _ _ us hl => match us, hl with | [_, _], _ => rfl⟩
  have O21 : FnG l.prog w K mg base CX0 3 f21 _ ["program", "begin", "most"] (sp_f_ran K) := ok_f_ran F21 D_f_step_from m_len m_tuple m_int
  obtain ⟨kg_f_ran_p3, kh_f_ran_p3⟩ := kb_f_ran_p3 F21
  have DK_f_ran_p3 : DefK l.prog w K mg base CX0 "ran" 3 ["program", "begin", "most"] [] gk_f_ran_p3 (sp_f_ran K) := ⟨f21, _, _, PySem.W.mg_of X G a21, O21, k21, kh_f_ran_p3⟩
  have O22 : FnG l.prog w K mg base CX0 4 f22 _ ["program", "begin", "most"] (sp_f_stopped_run K) := ok_f_stopped_run F22 DK_f_ran_p3
  have D_f_stopped_run : Def l.prog w K mg base CX0 "stopped_run" 4 ["program", "begin", "most"] (sp_f_stopped_run K) := ⟨f22, _, PySem.W.mg_of X G a22, O22, k22, F22.binds (ps := ["program", "begin", "most"]) fun _ _ _ _ _ _ us hl => match us, hl with | [_, _, _], _ => rfl⟩
  have O23 : FnG l.prog w K mg base CX0 5 f23 _ ["program", "begin", "most"] (sp_f_least_c K) := ok_f_least_c F23 D_f_c_for D_f_stopped_run
  obtain ⟨kg_f_least_c_p2, kh_f_least_c_p2⟩ := kb_f_least_c_p2 F23
  have DK_f_least_c_p2 : DefK l.prog w K mg base CX0 "least_c" 5 ["program", "begin", "most"] [] gk_f_least_c_p2 (sp_f_least_c K) := ⟨f23, _, _, PySem.W.mg_of X G a23, O23, k23, kh_f_least_c_p2⟩
  have O24 : FnG l.prog w K mg base CX0 1 f24 _ ["terms"] (sp_f_sum_of K) := ok_f_sum_of F24 m_enumerate m_int
  have D_f_sum_of : Def l.prog w K mg base CX0 "sum_of" 1 ["terms"] (sp_f_sum_of K) := ⟨f24, _, PySem.W.mg_of X G a24, O24, k24, F24.binds (ps := ["terms"]) fun _ _ _ _ _ _ us hl => match us, hl with | [_], _ => rfl⟩
  have O25 : FnG l.prog w K mg base CX0 1 f25 _ ["letter", "number"] (sp_f_named K) := ok_f_named F25
  obtain ⟨kg_f_named_p1, kh_f_named_p1⟩ := kb_f_named_p1 F25
  have DK_f_named_p1 : DefK l.prog w K mg base CX0 "named" 1 ["letter", "number"] [] gk_f_named_p1 (sp_f_named K) := ⟨f25, _, _, PySem.W.mg_of X G a25, O25, k25, kh_f_named_p1⟩
  obtain ⟨kg_f_named_p2, kh_f_named_p2⟩ := kb_f_named_p2 F25
  have DK_f_named_p2 : DefK l.prog w K mg base CX0 "named" 1 ["letter", "number"] [] gk_f_named_p2 (sp_f_named K) := ⟨f25, _, _, PySem.W.mg_of X G a25, O25, k25, kh_f_named_p2⟩
  have O26 : FnG l.prog w K mg base CX0 1 f26 _ ["self", "word", "left", "right"] (sp_f_Saying__init K) := ok_f_Saying__init F26 c_WORDS d_WORDS
  have G_Saying : DefM l.prog w K mg base CX0 "Saying" 1 ["self", "word", "left", "right"] (sp_f_Saying__init K) C_Saying := ⟨f26, _, PySem.W.mg_of X G g_Saying, ⟨mk_Saying, a26, i26, kc_Saying⟩, O26, F26.binds (ps := ["self", "word", "left", "right"]) fun _ _ _ _ _ _ us hl => match us, hl with | [_, _, _, _], _ => rfl⟩
  have O27 : FnG l.prog w K mg base CX0 2 f27 _ ["steps"] (sp_f_power_at K) := ok_f_power_at F27 DK_f_named_p1 c_TWO d_TWO
  have D_f_power_at : Def l.prog w K mg base CX0 "power_at" 2 ["steps"] (sp_f_power_at K) := ⟨f27, _, PySem.W.mg_of X G a27, O27, k27, F27.binds (ps := ["steps"]) fun _ _ _ _ _ _ us hl => match us, hl with | [_], _ => rfl⟩
  have O28 : FnG l.prog w K mg base CX0 3 f28 _ [] (sp_f_top K) := ok_f_top F28 D_f_power_at DK_f_named_p1 c_ONE d_ONE
  have D_f_top : Def l.prog w K mg base CX0 "top" 3 [] (sp_f_top K) := ⟨f28, _, PySem.W.mg_of X G a28, O28, k28, F28.binds (ps := []) fun _ _ _ _ _ _ us hl => match us, hl with | [], _ => rfl⟩
  have O29 : FnG l.prog w K mg base CX0 4 f29 _ ["program"] (sp_f_base_sayings K) := ok_f_base_sayings F29 D_f_sum_of G_Saying SC_Saying D_f_top M_Program_len SC_Program OC_Program DK_f_named_p1 DK_f_named_p2 m_range m_len c_TWO d_TWO c_ONE d_ONE
  have D_f_base_sayings : Def l.prog w K mg base CX0 "base_sayings" 4 ["program"] (sp_f_base_sayings K) := ⟨f29, _, PySem.W.mg_of X G a29, O29, k29, F29.binds (ps := ["program"]) fun _ _ _ _ _ _ us hl => match us, hl with | [_], _ => rfl⟩
  have O30 : FnG l.prog w K mg base CX0 2 f30 _ ["program"] (sp_f_asked_boxes K) := ok_f_asked_boxes F30 D_f_goal_of m_enumerate m_sorted
  have D_f_asked_boxes : Def l.prog w K mg base CX0 "asked_boxes" 2 ["program"] (sp_f_asked_boxes K) := ⟨f30, _, PySem.W.mg_of X G a30, O30, k30, F30.binds (ps := ["program"]) fun _ _ _ _ _ _ us hl => match us, hl with | [_], _ => rfl⟩
  have O31 : FnG l.prog w K mg base CX0 2 f31 _ ["rows"] (sp_f_rows_named K) := ok_f_rows_named F31 DK_f_named_p2
  have D_f_rows_named : Def l.prog w K mg base CX0 "rows_named" 2 ["rows"] (sp_f_rows_named K) := ⟨f31, _, PySem.W.mg_of X G a31, O31, k31, F31.binds (ps := ["rows"]) fun _ _ _ _ _ _ us hl => match us, hl with | [_], _ => rfl⟩
  have O32 : FnG l.prog w K mg base CX0 3 f32 _ ["program"] (sp_f_time_sayings K) := ok_f_time_sayings F32 D_f_asked_boxes G_Saying SC_Saying D_f_sum_of D_f_power_at D_f_rows_named M_Program_len SC_Program OC_Program DK_f_named_p2 DK_f_named_p1 m_list m_range m_len c_ONE d_ONE c_TWO d_TWO
  have D_f_time_sayings : Def l.prog w K mg base CX0 "time_sayings" 3 ["program"] (sp_f_time_sayings K) := ⟨f32, _, PySem.W.mg_of X G a32, O32, k32, F32.binds (ps := ["program"]) fun _ _ _ _ _ _ us hl => match us, hl with | [_], _ => rfl⟩
  have O33 : FnG l.prog w K mg base CX0 3 f33 _ ["program", "k"] (sp_f_row_sayings K) := ok_f_row_sayings F33 G_Saying SC_Saying D_f_goal_of DK_f_named_p2 DK_f_named_p1
  have D_f_row_sayings : Def l.prog w K mg base CX0 "row_sayings" 3 ["program", "k"] (sp_f_row_sayings K) := ⟨f33, _, PySem.W.mg_of X G a33, O33, k33, F33.binds (ps := ["program", "k"]) fun _ _ _ _ _ _ us hl => match us, hl with | [_, _], _ => rfl⟩
  have O34 : FnG l.prog w K mg base CX0 1 f34 _ ["program", "j", "word"] (sp_f_moves_of K) := ok_f_moves_of F34 m_enumerate
  have D_f_moves_of : Def l.prog w K mg base CX0 "moves_of" 1 ["program", "j", "word"] (sp_f_moves_of K) := ⟨f34, _, PySem.W.mg_of X G a34, O34, k34, F34.binds (ps := ["program", "j", "word"]) fun _ _ _ _ _ _ us hl => match us, hl with | [_, _, _], _ => rfl⟩
  have O35 : FnG l.prog w K mg base CX0 4 f35 _ ["program", "j"] (sp_f_box_saying K) := ok_f_box_saying F35 D_f_sum_of G_Saying SC_Saying D_f_rows_named D_f_moves_of D_f_top DK_f_named_p1 DK_f_named_p2
  have D_f_box_saying : Def l.prog w K mg base CX0 "box_saying" 4 ["program", "j"] (sp_f_box_saying K) := ⟨f35, _, PySem.W.mg_of X G a35, O35, k35, F35.binds (ps := ["program", "j"]) fun _ _ _ _ _ _ us hl => match us, hl with | [_, _], _ => rfl⟩
  have O36 : FnG l.prog w K mg base CX0 5 f36 _ ["program"] (sp_f_sayings_of K) := ok_f_sayings_of F36 D_f_base_sayings D_f_time_sayings D_f_row_sayings D_f_box_saying M_Program_len SC_Program OC_Program m_range m_len
  have D_f_sayings_of : Def l.prog w K mg base CX0 "sayings_of" 5 ["program"] (sp_f_sayings_of K) := ⟨f36, _, PySem.W.mg_of X G a36, O36, k36, F36.binds (ps := ["program"]) fun _ _ _ _ _ _ us hl => match us, hl with | [_], _ => rfl⟩
  have O37 : FnG l.prog w K mg base CX0 1 f37 _ ["boxes", "rows"] (sp_f_law_asked K) := ok_f_law_asked F37 m_range m_enumerate
  have D_f_law_asked : Def l.prog w K mg base CX0 "_law_asked" 1 ["boxes", "rows"] (sp_f_law_asked K) := ⟨f37, _, PySem.W.mg_of X G a37, O37, k37, F37.binds (ps := ["boxes", "rows"]) fun _ _ _ _ _ _ us hl => match us, hl with | [_, _], _ => rfl⟩
  have O38 : FnG l.prog w K mg base CX0 2 f38 _ ["boxes", "rows", "begin", "stands", "c"] (sp_f_law_answer K) := ok_f_law_answer F38 D_f_law_asked m_range m_sum m_len m_dict m_list m_str m_zip m_enumerate
  have D_f_law_answer : Def l.prog w K mg base CX0 "_law_answer" 2 ["boxes", "rows", "begin", "stands", "c"] (sp_f_law_answer K) := ⟨f38, _, PySem.W.mg_of X G a38, O38, k38, F38.binds (ps := ["boxes", "rows", "begin", "stands", "c"]) fun _ _ _ _ _ _ us hl => match us, hl with | [_, _, _, _, _], _ => rfl⟩
  have R39 : ∀ m : Nat, FnG l.prog w K mg base CX0 (0 + m) f39 (PySem.W.fnOf "_law_worth" "_law_worth" (defArgs s_f_law_worth) (defBody s_f_law_worth) (defScope s_f_law_worth) .none kV39 dc39 pm39 an39 cd39 ct39) ["term", "answer"] (spR_f_law_worth K m) := by
    intro m
    induction m with
    | zero => exact FnG.no (fun _ _ _ _ h => h)
    | succ m ih =>
      have D_f_law_worth : Def l.prog w K mg base CX0 "_law_worth" (0 + m) ["term", "answer"] (spR_f_law_worth K m) := ⟨f39, _, PySem.W.mg_of X G a39, ih, k39, F39.binds (ps := ["term", "answer"]) fun _ _ _ _ _ _ us hl => match us, hl with | [_, _], _ => rfl⟩
      exact ok_f_law_worth F39 D_f_law_worth
  have O39 : FnG l.prog w K mg base CX0 40 f39 _ ["term", "answer"] (sp_f_law_worth K) := R39 40
  have D_f_law_worth : Def l.prog w K mg base CX0 "_law_worth" 41 ["term", "answer"] (sp_f_law_worth K) := ⟨f39, _, PySem.W.mg_of X G a39, O39.mono (by omega), k39, F39.binds (ps := ["term", "answer"]) fun _ _ _ _ _ _ us hl => match us, hl with | [_, _], _ => rfl⟩
  have O40 : FnG l.prog w K mg base CX0 42 f40 _ ["saying", "answer"] (sp_f_law_holds K) := ok_f_law_holds F40 D_f_law_worth
  have D_f_law_holds : Def l.prog w K mg base CX0 "_law_holds" 42 ["saying", "answer"] (sp_f_law_holds K) := ⟨f40, _, PySem.W.mg_of X G a40, O40, k40, F40.binds (ps := ["saying", "answer"]) fun _ _ _ _ _ _ us hl => match us, hl with | [_, _], _ => rfl⟩
  exact ok_f_law F41 D_f_law_box D_f_law_stopping G_Program SC_Program D_f_sayings_of D_f_law_answer D_f_law_holds DK_f_least_c_p2 m_range m_max m_min m_list m_all m_len
end Rs
open PySem PySem.W PyProof.Rows
set_option maxHeartbeats 0 in
theorem PySem.Challenge.cw_runsums_k41_whole_no_lesser_base_holds : PySem.Challenge.rw_runsums_k41_whole_no_lesser_base.Holds := by
  w_on; o_law; k_head; (case hw => w_witness2)
  k_fill
  refine Rs.walk_g (l := PySem.Challenge.rw_runsums_k41_whole_no_lesser_base) (n := 63) (k := 43) (x := "script") (CX := fun _ => L2.CX0) (sp := fun w => Rs.sp_f_law _) rfl (by decide) rfl ⟨⟨rfl, by decide, by decide⟩, rfl, by decide⟩ (fun w h Y => PySem.W.kIn_of Y) ?F (fun _ _ a ns hl hO hS => ⟨a, ns, rfl, Rs.SqF.of hO hS, hl, fun _ => rfl⟩) (fun _ _ _ _ _ h => h)
  case F =>
    intro w mg fa h KX G hmg
    refine' Rs.all_mk KX G hmg ?g_Program ?mk_Program ?kc_Program ?pg_Program ?hd_Program ?po_Program ?sa_Program ?o1_Program ?o2_Program ?o3_Program ?o6_Program ?na_Program_boxes ?na_Program_rows ?g_Saying ?mk_Saying ?kc_Saying ?pg_Saying ?hd_Saying ?po_Saying ?sa_Saying ?o1_Saying ?o2_Saying ?o3_Saying ?o6_Saying ?na_Saying_word ?na_Saying_left ?na_Saying_right ?o4 ?o5 ?a0 ?l0 ?c0 ?k0 ?a1 ?l1 ?c1 ?k1 ?a2 ?l2 ?c2 ?k2 ?a3 ?l3 ?c3 ?k3 ?a4 ?l4 ?c4 ?k4 ?a5 ?l5 ?c5 ?k5 ?a6 ?l6 ?c6 ?k6 ?a7 ?l7 ?c7 ?k7 ?a8 ?l8 ?c8 ?k8 ?a9 ?l9 ?c9 ?k9 ?a10 ?l10 ?c10 ?k10 ?a11 ?l11 ?c11 ?k11 ?a12 ?l12 ?c12 ?k12 ?a13 ?l13 ?c13 ?k13 ?a14 ?l14 ?c14 ?k14 ?a15 ?i15 ?l15 ?c15 ?k15 ?a16 ?i16 ?l16 ?c16 ?k16 ?a17 ?l17 ?c17 ?k17 ?a18 ?l18 ?c18 ?k18 ?a19 ?l19 ?c19 ?k19 ?a20 ?l20 ?c20 ?k20 ?a21 ?l21 ?dl21 ?dv21 ?c21 ?k21 ?a22 ?l22 ?c22 ?k22 ?a23 ?l23 ?dl23 ?dv23 ?c23 ?k23 ?a24 ?l24 ?c24 ?k24 ?a25 ?l25 ?dl25 ?dv25 ?c25 ?k25 ?a26 ?i26 ?l26 ?c26 ?k26 ?a27 ?l27 ?c27 ?k27 ?a28 ?l28 ?c28 ?k28 ?a29 ?l29 ?c29 ?k29 ?a30 ?l30 ?c30 ?k30 ?a31 ?l31 ?c31 ?k31 ?a32 ?l32 ?c32 ?k32 ?a33 ?l33 ?c33 ?k33 ?a34 ?l34 ?c34 ?k34 ?a35 ?l35 ?c35 ?k35 ?a36 ?l36 ?c36 ?k36 ?a37 ?l37 ?c37 ?k37 ?a38 ?l38 ?c38 ?k38 ?a39 ?l39 ?c39 ?k39 ?a40 ?l40 ?c40 ?k40 ?a41 ?l41 ?c41 ?k41 ?z_len ?z_int ?z_range ?z_tuple ?z_isinstance ?z_bool ?z_all ?z_zip ?z_enumerate ?z_max ?z_sum ?z_sorted ?z_list ?z_dict ?z_str ?z_min ?y_SHAPES ?ld_SHAPES ?kl_SHAPES ?sm_SHAPES ?v_SHAPES_0 ?lt_SHAPES_0 ?vt_SHAPES_0 ?v_SHAPES_1 ?lt_SHAPES_1 ?vt_SHAPES_1 ?v_SHAPES_2 ?lt_SHAPES_2 ?vt_SHAPES_2 ?v_SHAPES_3 ?lt_SHAPES_3 ?vt_SHAPES_3 ?v_SHAPES_4 ?lt_SHAPES_4 ?vt_SHAPES_4 ?y_MOST_BOXES ?y_MOST_ROWS ?y_WORDS ?ld_WORDS ?kl_WORDS ?sm_WORDS ?v_WORDS_0 ?v_WORDS_1 ?y_TWO ?lt_TWO ?vt_TWO ?y_ONE ?lt_ONE ?vt_ONE
    (case g_Program => k_is)
    (case mk_Program => k_is)
    (case kc_Program => k_is)
    (case pg_Program => k_is)
    (case hd_Program => k_is)
    (case po_Program => k_is)
    (case sa_Program => k_is)
    (case o1_Program => k_is)
    (case o2_Program => k_is)
    (case o3_Program => k_is)
    (case o6_Program => exact if_pos (beq_self_eq_true _))
    (case na_Program_boxes => k_is)
    (case na_Program_rows => k_is)
    (case g_Saying => k_is)
    (case mk_Saying => k_is)
    (case kc_Saying => k_is)
    (case pg_Saying => k_is)
    (case hd_Saying => k_is)
    (case po_Saying => k_is)
    (case sa_Saying => k_is)
    (case o1_Saying => k_is)
    (case o2_Saying => k_is)
    (case o3_Saying => k_is)
    (case o6_Saying => exact if_pos (beq_self_eq_true _))
    (case na_Saying_word => k_is)
    (case na_Saying_left => k_is)
    (case na_Saying_right => k_is)
    (case o4 => k_is)
    (case o5 => k_is)
    (case a0 => k_is)
    (case l0 => k_is)
    (case c0 => k_is)
    (case k0 => k_is)
    (case a1 => k_is)
    (case l1 => k_is)
    (case c1 => k_is)
    (case k1 => k_is)
    (case a2 => k_is)
    (case l2 => k_is)
    (case c2 => k_is)
    (case k2 => k_is)
    (case a3 => k_is)
    (case l3 => k_is)
    (case c3 => k_is)
    (case k3 => k_is)
    (case a4 => k_is)
    (case l4 => k_is)
    (case c4 => k_is)
    (case k4 => k_is)
    (case a5 => k_is)
    (case l5 => k_is)
    (case c5 => k_is)
    (case k5 => k_is)
    (case a6 => k_is)
    (case l6 => k_is)
    (case c6 => k_is)
    (case k6 => k_is)
    (case a7 => k_is)
    (case l7 => k_is)
    (case c7 => k_is)
    (case k7 => k_is)
    (case a8 => k_is)
    (case l8 => k_is)
    (case c8 => k_is)
    (case k8 => k_is)
    (case a9 => k_is)
    (case l9 => k_is)
    (case c9 => k_is)
    (case k9 => k_is)
    (case a10 => k_is)
    (case l10 => k_is)
    (case c10 => k_is)
    (case k10 => k_is)
    (case a11 => k_is)
    (case l11 => k_is)
    (case c11 => k_is)
    (case k11 => k_is)
    (case a12 => k_is)
    (case l12 => k_is)
    (case c12 => k_is)
    (case k12 => k_is)
    (case a13 => k_is)
    (case l13 => k_is)
    (case c13 => k_is)
    (case k13 => k_is)
    (case a14 => k_is)
    (case l14 => k_is)
    (case c14 => k_is)
    (case k14 => k_is)
    (case a15 => k_is)
    (case i15 => k_is)
    (case l15 => k_is)
    (case c15 => k_is)
    (case k15 => k_is)
    (case a16 => k_is)
    (case i16 => k_is)
    (case l16 => k_is)
    (case c16 => k_is)
    (case k16 => k_is)
    (case a17 => k_is)
    (case l17 => k_is)
    (case c17 => k_is)
    (case k17 => k_is)
    (case a18 => k_is)
    (case l18 => k_is)
    (case c18 => k_is)
    (case k18 => k_is)
    (case a19 => k_is)
    (case l19 => k_is)
    (case c19 => k_is)
    (case k19 => k_is)
    (case a20 => k_is)
    (case l20 => k_is)
    (case c20 => k_is)
    (case k20 => k_is)
    (case a21 => k_is)
    (case l21 => k_is)
    (case dl21 => k_is)
    (case dv21 => exact (.cons ⟨_, rfl⟩ .nil))
    (case c21 => k_is)
    (case k21 => k_is)
    (case a22 => k_is)
    (case l22 => k_is)
    (case c22 => k_is)
    (case k22 => k_is)
    (case a23 => k_is)
    (case l23 => k_is)
    (case dl23 => k_is)
    (case dv23 => exact (.cons ⟨_, rfl⟩ .nil))
    (case c23 => k_is)
    (case k23 => k_is)
    (case a24 => k_is)
    (case l24 => k_is)
    (case c24 => k_is)
    (case k24 => k_is)
    (case a25 => k_is)
    (case l25 => k_is)
    (case dl25 => k_is)
    (case dv25 => exact (.cons ⟨_, rfl⟩ .nil))
    (case c25 => k_is)
    (case k25 => k_is)
    (case a26 => k_is)
    (case i26 => k_is)
    (case l26 => k_is)
    (case c26 => k_is)
    (case k26 => k_is)
    (case a27 => k_is)
    (case l27 => k_is)
    (case c27 => k_is)
    (case k27 => k_is)
    (case a28 => k_is)
    (case l28 => k_is)
    (case c28 => k_is)
    (case k28 => k_is)
    (case a29 => k_is)
    (case l29 => k_is)
    (case c29 => k_is)
    (case k29 => k_is)
    (case a30 => k_is)
    (case l30 => k_is)
    (case c30 => k_is)
    (case k30 => k_is)
    (case a31 => k_is)
    (case l31 => k_is)
    (case c31 => k_is)
    (case k31 => k_is)
    (case a32 => k_is)
    (case l32 => k_is)
    (case c32 => k_is)
    (case k32 => k_is)
    (case a33 => k_is)
    (case l33 => k_is)
    (case c33 => k_is)
    (case k33 => k_is)
    (case a34 => k_is)
    (case l34 => k_is)
    (case c34 => k_is)
    (case k34 => k_is)
    (case a35 => k_is)
    (case l35 => k_is)
    (case c35 => k_is)
    (case k35 => k_is)
    (case a36 => k_is)
    (case l36 => k_is)
    (case c36 => k_is)
    (case k36 => k_is)
    (case a37 => k_is)
    (case l37 => k_is)
    (case c37 => k_is)
    (case k37 => k_is)
    (case a38 => k_is)
    (case l38 => k_is)
    (case c38 => k_is)
    (case k38 => k_is)
    (case a39 => k_is)
    (case l39 => k_is)
    (case c39 => k_is)
    (case k39 => k_is)
    (case a40 => k_is)
    (case l40 => k_is)
    (case c40 => k_is)
    (case k40 => k_is)
    (case a41 => k_is)
    (case l41 => k_is)
    (case c41 => k_is)
    (case k41 => k_is)
    (case z_len => k_is)
    (case z_int => k_is)
    (case z_range => k_is)
    (case z_tuple => k_is)
    (case z_isinstance => k_is)
    (case z_bool => k_is)
    (case z_all => k_is)
    (case z_zip => k_is)
    (case z_enumerate => k_is)
    (case z_max => k_is)
    (case z_sum => k_is)
    (case z_sorted => k_is)
    (case z_list => k_is)
    (case z_dict => k_is)
    (case z_str => k_is)
    (case z_min => k_is)
    (case y_SHAPES => k_is)
    (case ld_SHAPES => k_is)
    (case kl_SHAPES => exact ⟨⟨_, _, rfl, rfl⟩, ⟨_, _, rfl, rfl⟩, ⟨_, _, rfl, rfl⟩, ⟨_, _, rfl, rfl⟩, ⟨_, _, rfl, rfl⟩, trivial⟩)
    (case sm_SHAPES => first | rfl | decide)
    (case v_SHAPES_0 => k_is)
    (case lt_SHAPES_0 => k_is)
    (case vt_SHAPES_0 => exact ⟨by decide, (.cons ⟨_, rfl⟩ .nil)⟩)
    (case v_SHAPES_1 => k_is)
    (case lt_SHAPES_1 => k_is)
    (case vt_SHAPES_1 => exact ⟨by decide, (.cons ⟨_, rfl⟩ .nil)⟩)
    (case v_SHAPES_2 => k_is)
    (case lt_SHAPES_2 => k_is)
    (case vt_SHAPES_2 => exact ⟨by decide, (.cons ⟨_, rfl⟩ (.cons ⟨_, rfl⟩ .nil))⟩)
    (case v_SHAPES_3 => k_is)
    (case lt_SHAPES_3 => k_is)
    (case vt_SHAPES_3 => exact ⟨by decide, (.cons ⟨_, rfl⟩ .nil)⟩)
    (case v_SHAPES_4 => k_is)
    (case lt_SHAPES_4 => k_is)
    (case vt_SHAPES_4 => exact ⟨by decide, .nil⟩)
    (case y_MOST_BOXES => k_is)
    (case y_MOST_ROWS => k_is)
    (case y_WORDS => k_is)
    (case ld_WORDS => k_is)
    (case kl_WORDS => exact ⟨⟨_, _, rfl, rfl⟩, ⟨_, _, rfl, rfl⟩, trivial⟩)
    (case sm_WORDS => first | rfl | decide)
    (case v_WORDS_0 => k_is)
    (case v_WORDS_1 => k_is)
    (case y_TWO => k_is)
    (case lt_TWO => k_is)
    (case vt_TWO => exact ⟨by decide, (.cons ⟨_, rfl⟩ (.cons ⟨_, rfl⟩ .nil))⟩)
    (case y_ONE => k_is)
    (case lt_ONE => k_is)
    (case vt_ONE => exact ⟨by decide, (.cons ⟨_, rfl⟩ (.cons ⟨_, rfl⟩ .nil))⟩)
