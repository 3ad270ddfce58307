import PyProof.Rows.All
import Wide.All
import OpenK.AllK
import Wide.FinOn
import HandS.ForMost
import HandS.ForExc
import HandS.Flow
import HandS.Style
import HandS.Wide
import HandS.WideMore
import HandS.WideBits
import HandS.IsInst
import HandS.Rev
import HandS.Walk
import HandS.IntHex
import HandS.SortKw
import KE.GoesEnumKw
import HandS.Zip
import KE.GoesMore
import HandS.More
import HandS.DictComp
import HandS.ListItems
import HandS.TupAny
import HandS.Defaults
import PyProof.P3Eq
import KE.KTupSum
import KE.DataMinMax
import HandS.FStr
import HandS.Conv
import HandS.OwnEq
import HandS.RaiseMore
import PyProof.StrLaws
import HandS.StrMore
import KE.KDictZip
import PyProof.DictUpdate
import KE.KDictList
import PyProof.CollectStr
import PyProof.Rows.TmSorted
import PyProof.Rows.StrMeet
import PySem.Challenge.RW_runsums_k43_the_first_that_fails
set_option Elab.async false
set_option linter.all false
set_option maxRecDepth 100000
set_option maxHeartbeats 4000000
set_option exponentiation.threshold 20000
namespace Rs
open PySem L2 PyProof.Rows
abbrev Sm := L2.Same
/-! ### rules side by side -/
section
variable {X : Cx}
theorem op_or {f : Value → Value → Sem Value} {r r' : R2} (h : OpR X f r) (h' : OpR X f r') : OpR X f (fun x y H Q => r x y H Q ∨ r' x y H Q) := by
  intro pins s σ H x y v u Q I rx ry q
  rcases q with q | q
  · exact h pins s σ H x y v u Q I rx ry q
  · exact h' pins s σ H x y v u Q I rx ry q
theorem cr_or {f : Value} {r r' : List V → Hp → VK → Prop} (h : CallR X f r) (h' : CallR X f r') : CallR X f (fun xs H Q => r xs H Q ∨ r' xs H Q) := by
  intro pins s σ H xs us Q I rx q
  rcases q with q | q
  · exact h pins s σ H xs us Q I rx q
  · exact h' pins s σ H xs us Q I rx q
def gAdd (K : PySem.W.Frag) : R2 := fun x y H Q => rI0 (fun i j => .int (i + j)) x y H Q ∨ ((∃ i j, x = .str i ∧ y = .str j ∧ i.length + j.length ≤ sizeLine ∧ Q (.str (i ++ j)) H) ∨ (rCat x y H Q ∨ rCatA K x y H Q))
theorem op_gAdd {K : PySem.W.Frag} (hK : X.K = K) : OpR X (binaryOp .Add) (gAdd K) := by subst hK; exact op_or op_add (op_or op_add_str (op_or op_cat op_catA))
def CM (i j : Int) : Prop := CMul i j ∨ CMulX i j
def gMul : R2 := fun x y H Q => rI CMul (fun i j => .int (i * j)) x y H Q ∨ (rI CMulX (fun i j => .int (i * j)) x y H Q ∨ rRep x y H Q)
theorem op_gMul : OpR X (binaryOp .Mult) gMul := op_or op_mul (op_or op_mulX op_rep)
def gDiv : R2 := fun x y H Q => rI CDivW (fun i j => .int (i / j)) x y H Q
theorem op_gDiv : OpR X (binaryOp .FloorDiv) gDiv := op_fdivW
def gMod : R2 := rI (fun _ j => 0 < j) fun i j => .int (i % j)
theorem op_gMod : OpR X (binaryOp .Mod) gMod := op_mod
def gShl : R2 := rI CShl fun i j => .int (i * 2 ^ j.toNat)
theorem op_gShl : OpR X (binaryOp .LShift) gShl := op_shlW
def gPow : R2 := rI CPow fun i j => .int (i ^ j.toNat)
theorem op_gPow : OpR X (binaryOp .Pow) gPow := op_pow
def gShr : R2 := rI (fun _ j => 0 ≤ j) fun i j => .int (i / 2 ^ j.toNat)
def gAnd : R2 := rI0 fun i j => .int (Builtin.bitAnd i j)
theorem op_gAnd : OpR X (binaryOp .BitAnd) gAnd := op_and
def gLt : R2 := rI0 fun i j => .bl (decide (i < j))
theorem op_gLt : OpR X (compareOp .Lt) gLt := op_lt
def gLe : R2 := rI0 fun i j => .bl (decide (i ≤ j))
theorem op_gLe : OpR X (compareOp .LtE) gLe := op_le
def gGt : R2 := rI0 fun i j => .bl (decide (j < i))
theorem op_gGt : OpR X (compareOp .Gt) gGt := op_gt
def gGe : R2 := rI0 fun i j => .bl (decide (j ≤ i))
theorem op_gGe : OpR X (compareOp .GtE) gGe := op_ge
def gEq (K : PySem.W.Frag) : R2 := fun x y H Q => rEq x y H Q ∨ rEqD K x y H Q
theorem op_gEq {K : PySem.W.Frag} (hK : X.K = K) (hu : X.A.units + 64 < cLine) : OpR X (compareOp .Eq) (gEq K) := by subst hK; exact op_or op_eq (op_eqD hu)
def gNe (K : PySem.W.Frag) : R2 := fun x y H Q => rNe x y H Q ∨ rNeD K x y H Q
theorem op_gNe {K : PySem.W.Frag} (hK : X.K = K) (hu : X.A.units + 64 < cLine) : OpR X (compareOp .NotEq) (gNe K) := by subst hK; exact op_or op_ne (op_neD hu)
def gLen (K : PySem.W.Frag) : List V → Hp → VK → Prop := fun xs H Q => (∃ p ys, xs = [.ref p] ∧ (SqL K H p ys ∨ SqT K H p ys) ∧ Q (.int ys.length) H) ∨ (∃ z, xs = [.str z] ∧ z.length ≤ sizeLine ∧ Q (.int z.length) H)
theorem call_gLen {K : PySem.W.Frag} (hK : X.K = K) : CallR X (.builtin "len") (gLen K) := by subst hK; exact cr_or call_len_seq call_len_str
theorem call_gIsi {K : PySem.W.Frag} (hK : X.K = K) : CallR X (.builtin "isinstance") (rIsi K) := by subst hK; exact call_isi
theorem ix_g {K : PySem.W.Frag} (hK : X.K = K) : IxR X (rIx K) := by subst hK; exact ix_seq
def gSl (K : PySem.W.Frag) : V → Option Int → Option Int → Hp → VK → Prop := fun x lo hi H Q => rSlL K x lo hi H Q ∨ rSlA K x lo hi H Q
theorem sl_gl {K : PySem.W.Frag} (hK : X.K = K) : SlR X (gSl K) := by subst hK; exact SlR.or sl_list sl_tupA
theorem pi_gl {K : PySem.W.Frag} (hK : X.K = K) {tg l : Expr} {tl : TE} (hl : PE X l tl) : PI X tg l (iList K tl) := by subst hK; exact pi_list hl
theorem pi_gt {K : PySem.W.Frag} (hK : X.K = K) {tg l : Expr} {tl : TE} (hl : PE X l tl) : PI X tg l (iTup K tl) := by subst hK; exact pi_tup hl
def gTup2 (K : PySem.W.Frag) (n : Nat) (t : TGs) : TG := gTup K n t
theorem pg_gt {K : PySem.W.Frag} (hK : X.K = K) {es : List Expr} {k : Nat} {pos : Pos} {t : TGs} {n : Nat} (hc : X.calm = true) (h : PGs X es t) (hl : (assignEach es X.env).length = n := by rfl) (hst : (assignEach es X.env).findIdx? (·.1) = none := by rfl) :
    PG X (.Tuple es k pos) (gTup2 K n t) := by subst hK; exact pg_tup hc h hl hst
theorem pe_gbm {K : PySem.W.Frag} (hK : X.K = K) {o e : Expr} {es : List Expr} {to : TE} {t : TA} {name : Str} {apos cpos : Pos} {T id : String} {r : V → List V → Hp → VK → Prop} (pa : PlainAttrs T) (slot : Slot T name id) (hty : typeOf (.builtin id) = pure (.type "method_descriptor")) (hm : MtR X id r) (ho : PE X o to) (ha : PA X (e :: es) t)
    (hbase : attributeBase o name X.env (eval o X.env) = eval o X.env := by rfl)
    (hfew : ((backTo cpos (starEach (e :: es) X.env)).all (fun x => !x.1) && (backToKw cpos (keywordEach [] X.env)).all (fun x => x.1.isSome)
      && decide ((e :: es).length + ([] : List Keyword).length + (if ([] : List Keyword).isEmpty then 0 else 1) < 30)) = true := by rfl)
    (hline : (apos.endLine == cpos.line) = true := by rfl) (hs : starEach (e :: es) X.env = (false, eval e X.env) :: starEach es X.env := by rfl) (hplain : (backTo cpos (starEach es X.env)).any (·.1) = false := by rfl) :
    PE X (.Call (.Attribute o name apos) (e :: es) [] cpos) (tBM K T r to t) := by subst hK; exact pe_bm pa slot hty hm ho ha hbase hfew hline hs hplain
theorem pe_gbm0 {K : PySem.W.Frag} (hK : X.K = K) {o : Expr} {to : TE} {name : Str} {apos cpos : Pos} {T id : String} {r : V → List V → Hp → VK → Prop} (pa : PlainAttrs T) (slot : Slot T name id) (hty : typeOf (.builtin id) = pure (.type "method_descriptor")) (hm : MtR X id r) (ho : PE X o to)
    (hbase : attributeBase o name X.env (eval o X.env) = eval o X.env := by rfl) (hline : (apos.endLine == cpos.line) = true := by rfl) : PE X (.Call (.Attribute o name apos) [] [] cpos) (tBM0 K T r to) := by subst hK; exact pe_bm0 pa slot hty hm ho hbase hline
def gTpl (K : PySem.W.Frag) : List V → Hp → VK → Prop := (fun xs H Q => ∃ p ys, xs = [.ref p] ∧ ((SqL K H p ys ∧ ∀ l, H l = none → Q (.ref l) (upd H l (.tup ys))) ∨ (SqT K H p ys ∧ Q (.ref p) H)))
def gLst (K : PySem.W.Frag) : List V → Hp → VK → Prop := (fun xs H Q => ∃ p ys, xs = [.ref p] ∧ (SqL K H p ys ∨ SqT K H p ys) ∧ ∀ l, H l = none → Q (.ref l) (upd H l (.lst ys)))
theorem call_gTuple {K : PySem.W.Frag} (hK : X.K = K) : CallR X (.type "tuple") (gTpl K) := by subst hK; exact call_tuple_of
theorem call_gList {K : PySem.W.Frag} (hK : X.K = K) : CallR X (.type "list") (gLst K) := by subst hK; exact call_list_of
theorem iop_mulX : OpR X (inplaceOp .Mult) (rI CMulX fun i j => .int (i * j)) := opI fun _ _ _ _ _ _ _ hc q => imul_int q hc.ok
def gIAdd : R2 := fun x y H Q => rI0 (fun i j => .int (i + j)) x y H Q ∨ (∃ i j, x = .str i ∧ y = .str j ∧ i.length + j.length ≤ sizeLine ∧ Q (.str (i ++ j)) H)
def gIMul : R2 := fun x y H Q => rI CMul (fun i j => .int (i * j)) x y H Q ∨ rI CMulX (fun i j => .int (i * j)) x y H Q
def gXor : R2 := rI0 fun i j => .int (Builtin.bitXor i j)
theorem ip_gMul : PIp X .Mult gIMul := op_or iop_mul iop_mulX
theorem ip_gShr : PIp X .RShift gShr := iop_shr
theorem op_gXor {X : Cx} : OpR X (binaryOp .BitXor) gXor := op_xor
def gIntC : List V → Hp → VK → Prop := fun xs H Q => (∃ i, xs = [.int i] ∧ Q (.int i) H) ∨ ∃ k, xs = [.bl k] ∧ Q (.int (if k then 1 else 0)) H
theorem call_gInt : CallR X (.type "int") gIntC := call_int1
def gMax : List V → Hp → VK → Prop := fun xs H Q => ∃ i j, xs = [.int i, .int j] ∧ Q (.int (if j > i then j else i)) H
theorem call_gMax (hc : X.calm = true) : CallR X (.builtin "max") gMax := call_max2 hc
def gMin : List V → Hp → VK → Prop := fun xs H Q => ∃ i j, xs = [.int i, .int j] ∧ Q (.int (if j < i then j else i)) H
theorem call_gMin (hc : X.calm = true) : CallR X (.builtin "min") gMin := call_min2 hc
end
/-! ### a def's promise where nothing is being shown (no repr under way) -/
structure RoomG (k : Nat) (A : Around) : Prop where
  rm : Room k A
  gd : A.guards = some []
  un : A.units + 16 * k + 6000 < cLine
theorem RoomG.mono {j k : Nat} {A : Around} (r : RoomG k A) (h : j ≤ k) : RoomG j A := ⟨r.rm.mono h, r.gd, by have := r.un; omega⟩
theorem RoomG.units {k : Nat} {A : Around} (r : RoomG k A) : A.units + 64 < cLine := r.rm.units
theorem RoomG.big {k : Nat} {A : Around} (r : RoomG k A) : A.units + 5000 < cLine := by have := r.un; omega
theorem RoomG.down {k : Nat} {A : Around} (r : RoomG (k + 1) A) (v : Env) : RoomG k (A.deeper v) := ⟨r.rm.deeper v, r.gd, by have := r.un; show A.units + 3 + 16 * k + 6000 < _; omega⟩
theorem RoomG.in1 {k : Nat} {A : Around} (r : RoomG (k + 1) A) : RoomG k A.in1 := ⟨r.rm.in1, r.gd, by have := r.un; show A.units + 1 + 16 * k + 6000 < _; omega⟩
structure FnG (P : Program) (w : World) (K : PySem.W.Frag) (mg : Str → Option Value) (base : Heap) (CX : CXT) (k : Nat) (f : Addr) (fd : FuncData) (ps : List Str) (sp : Sp) : Prop where
  ln : ∀ vs H Q E, sp vs H Q E → vs.length = ps.length
  go : ∀ (A : Around) (ou : List Env) (z : Shared) (H : Hp) (ar : Args) (us : List Value) (vs : List V) (Q : VK) (E : XK), RoomG k A → Env0 P w K mg base A ou z H → BindsTo z fd ar (ps.zip us) → Vals vs us → sp vs H Q E →
    codeAny (model P w) A (.call (.ref f) ar) (CR CX ou P w H z Q E) z
/-- a call's end is what the caller wants -/
theorem aft {X : Cx} {CX : CXT} {pins : List (Addr × Obj)} {σ : L2.St} {H : Hp} {s : Shared} {Q : VK} {E : XK} (hx : Passes CX X E) (I : Inv X pins σ H s) {r : Result} {z : Shared} (h : CR CX X.stack X.prog X.w H s Q E r z) :
    callEnd (EP X pins σ Q) X.xe r z := by
  cases r with
  | error e => exact hx pins σ H s e z I h
  | ok fl => cases fl with
    | ret u => exact I.after h
    | next => exact h.elim
    | brk => exact h.elim
    | cont => exact h.elim
theorem run_g {X : Cx} {CX : CXT} {k : Nat} {f : Addr} {fd : FuncData} {ps : List Str} {sp : Sp} {E : XK} {pins : List (Addr × Obj)} {σ : L2.St} {H : Hp} {s : Shared} {Q : VK} {us : List Value} {vs : List V}
    (F : FnG X.prog X.w X.K X.mg X.base CX k f fd ps sp) (hr : RoomG k X.A) (hb : Binds X.K fd ps []) (hx : Passes CX X E) (I : Inv X pins σ H s) (r : Vals vs us) (h : sp (vs ++ []) H Q E) : wpAny (model X.prog X.w) X.A (call (.ref f) us) (EP X pins σ Q) X.xe s := by
  have q := r.append (show Vals [] [] from .nil)
  exact wpAny_call (codeAny_mono (F.go X.A X.stack s H ⟨us, []⟩ (us ++ []) (vs ++ []) Q E hr I.env0 (hb s us I.kIn (q.length.symm.trans (F.ln _ _ _ _ h))) q h) fun _ _ y => aft hx I y)
theorem fn_g {CX : CXT} {P : Program} {w : World} {K : PySem.W.Frag} {mg : Str → Option Value} {base : Heap} {k : Nat} {f : Addr} {nm qu : Str} {pr : Arguments} {bd : List Stmt} {sc : Scope} {dV kV dc pm cd ct oc : Value} {an od : Option Addr} {sl : Array (Option Value)} {N ps : List Str} {sp : Sp}
    (lk : K.lookup f = some ⟨oc, od, .func (PySem.W.fnOf nm qu pr bd sc dV kV dc pm an cd ct), sl⟩) (hc : PySem.W.codeIn K cd qu = true) (S : FnScope N ps sc) (ln : ∀ vs H Q E, sp vs H Q E → vs.length = ps.length)
    (hb : ∀ (A : Around) (ou : List Env) (z : Shared) (H : Hp) (vs : List V) (Q : VK) (E : XK), RoomG k (A.deeper (envOfC qu sc z.heap.objs.size f cd)) → sp vs H Q E → ∃ t, PSs (cxOf CX P w K mg base N qu sc f cd A ou z H E) bd t ∧ t { nx := fun _ H' => Q .non H', rt := Q } (start N vs) H) :
    FnG P w K mg base CX (k + 1) f (PySem.W.fnOf nm qu pr bd sc dV kV dc pm an cd ct) ps sp := by
  refine ⟨ln, fun A ou z H ar us vs Q E hr e0 bt r hs => ?_⟩
  have hl := ln _ _ _ _ hs
  have old : ∀ b o, base.get? b = some o → z.heap.get? b = some o := fun b o e => (e0.bs b o e).1
  have kz := e0.mod.kin.keeps old
  have lim := e0.mod.nolimit.keeps old
  have hk : ∀ y ∈ ps.zip us, sc.names.lookup y.1 = some .local ∨ (sc.names.lookup y.1 = some .cell ∧ ((cellsFrom (z.heap.objs.size + 1) sc.names []).lookup y.1).isSome = true) := by
    intro y hy
    rcases S.par y.1 (List.of_mem_zip hy).1 with q | q
    · exact .inl q
    · exact .inr ⟨q, PySem.W.cellsFrom_some _ _ _ (.inl q)⟩
  refine codeAny_call_function hr.rm.depth (kz _ _ lk) rfl S.co S.gen rfl (PySem.W.codeRec_of kz hc) (bt _ _ _ _ (wpAny_newFunctionEnv_cells S.kind hk fun v hv z1 x => ?_))
  subst hv
  refine ⟨lim.keeps x.toInCall.keep, codeAny_func ?_⟩
  obtain ⟨t, ht, hq⟩ := hb A ou z H vs Q E (hr.down _) hs
  refine wpAny_mono (ht.run [] z1 (start N vs) H _ (inv_start S hr.rm.hd e0 hl r x) hq) (fun fl z2 y => ?_) fun _ _ y => y
  cases fl with
  | ret u =>
    obtain ⟨v, σ', H', J, rv, q⟩ := y
    exact ⟨v, H', J.os, J.bare, J.base, J.hok, rv, q⟩
  | next =>
    obtain ⟨σ', H', J, q⟩ := y
    exact ⟨V.non, H', J.os, J.bare, J.base, J.hok, rfl, q⟩
  | brk => exact y.elim fun _ y => y.elim fun _ y => y.2.elim
  | cont => exact y.elim fun _ y => y.elim fun _ y => y.2.elim
theorem okG {CX : CXT} {P : Program} {w : World} {K : PySem.W.Frag} {mg : Str → Option Value} {base : Heap} {x qu : Str} {st : Stmt} {f : Addr} {fd : FuncData} {N ps : List Str} {k : Nat} {sp : Sp} (F : Fun K x qu st f fd) (S : FnScope N ps (defScope st)) (ln : ∀ vs H Q E, sp vs H Q E → vs.length = ps.length)
    (hb : ∀ (cd : Value) (A : Around) (ou : List Env) (z : Shared) (H : Hp) (vs : List V) (Q : VK) (E : XK), RoomG k (A.deeper (envOfC qu (defScope st) z.heap.objs.size f cd)) → sp vs H Q E →
      ∃ t, PSs (cxOf CX P w K mg base N qu (defScope st) f cd A ou z H E).nox (defBody st) t ∧ t { nx := fun _ H' => Q .non H', rt := Q } (start N vs) H) : FnG P w K mg base CX (k + 1) f fd ps sp := by
  obtain ⟨oc, od, kV, dc, pm, an, cd, ct, sl, rfl, lk, hc⟩ := F.ex
  refine fn_g lk hc S ln fun A ou z H vs Q E hr hs => ?_
  obtain ⟨t, h, q⟩ := hb cd A ou z H vs Q E hr hs
  exact ⟨t, h.nox, q⟩
/-! ### a def by its name -/
structure Def (P : Program) (w : World) (K : PySem.W.Frag) (mg : Str → Option Value) (base : Heap) (CX : CXT) (name : Str) (k : Nat) (ps : List Str) (sp : Sp) : Prop where
  ex : ∃ f fd, mg name = some (.ref f) ∧ FnG P w K mg base CX k f fd ps sp ∧ PySem.W.keepIn K (.ref f) = true ∧ Binds K fd ps []
section
variable {X : Cx} {CX : CXT} {k : Nat} {ps : List Str} {sp : Sp} {x : Str} {p pos : Pos} {e : Expr} {es : List Expr} {t : TA} {E : XK}
theorem pe_f (G : Def X.prog X.w X.K X.mg X.base CX x k ps sp) (hr : RoomG k X.A) (hg : Gl X x) (hx : Passes CX X E) (ha : PA X (e :: es) t) (hdb : (x == ("__debug__" : Str)) = false := by decide)
    (he : starEach (e :: es) X.env = (false, eval e X.env) :: starEach es X.env := by rfl) (hpl : (backTo pos (starEach es X.env)).any (·.1) = false := by rfl) :
    PE X (.Call (.Name x p) (e :: es) [] pos) (tCall sp [] E t) := by
  obtain ⟨f, fd, m, F, kp, b⟩ := G.ex
  refine ⟨fun pins s σ H Q I h => wpAny_Call_Name_kw (ld_glob I hg m ?_ hdb)⟩
  exact PySem.W.callWith_K (h₀ := X.base) I.ok.mod.kin kp (thn (ha.run pos pins s σ H _ I h) fun us z ⟨vs, G, J, r, q⟩ => ⟨J.kIn, run_g F hr b hx J r q⟩) he hpl
end
theorem FnG.no {P : Program} {w : World} {K : PySem.W.Frag} {mg : Str → Option Value} {base : Heap} {CX : CXT} {k : Nat} {f : Addr} {fd : FuncData} {ps : List Str} {sp : Sp} (h : ∀ vs H Q E, sp vs H Q E → False) : FnG P w K mg base CX k f fd ps sp :=
  ⟨fun vs H Q E y => (h vs H Q E y).elim, fun _ _ _ H _ _ vs Q E _ _ _ _ y => (h vs H Q E y).elim⟩
theorem FnG.mono {P : Program} {w : World} {K : PySem.W.Frag} {mg : Str → Option Value} {base : Heap} {CX : CXT} {j k : Nat} {f : Addr} {fd : FuncData} {ps : List Str} {sp : Sp} (F : FnG P w K mg base CX j f fd ps sp) (h : j ≤ k) : FnG P w K mg base CX k f fd ps sp :=
  ⟨F.ln, fun A ou z H ar us vs Q E hr => F.go A ou z H ar us vs Q E (hr.mono h)⟩
/-- what stands in a class of the text -/
def clsB : Stmt → List Stmt := fun
  | .ClassDef (body := bd) .. => bd
  | _ => []
/-! ### an own class: made by its name, fields read -/
structure ClsF (K : PySem.W.Frag) (C : Addr) (fs : List Str) : Prop where
  cl : Cls K C
  na : ∀ f ∈ fs, NoAttr K C f
/-- the class by its name -/
structure ClsN (K : PySem.W.Frag) (x : Str) (C : Addr) (fs : List Str) : Prop extends ClsF K C fs where
  nm : PySem.W.nsIn K mainGlobals x = some (some (.ref C))
theorem mk_guards {A : Around} {C : Addr} {us : List Value} {kw : List (Str × Value)} (g : A.guards = some []) : (A.under (.builtin "type.__call__" ⟨.ref C :: us, kw⟩)).guards = some [] := by
  first | exact g | (simp [Around.under, Code.guards, Code.isGuard, guardIds, pushGuards, g])
theorem RoomG.mk2 {k : Nat} {A : Around} (r : RoomG (k + 1) A) (C : Addr) (us : List Value) : RoomG k (A.under (.builtin "type.__call__" ⟨.ref C :: us, []⟩)) := ⟨r.rm.make C us [], mk_guards r.gd, by have := r.un; rw [make_units]; omega⟩
structure DefM (P : Program) (w : World) (K : PySem.W.Frag) (mg : Str → Option Value) (base : Heap) (CX : CXT) (name : Str) (k : Nat) (ps : List Str) (sp : Sp) (C : Addr) : Prop where
  ex : ∃ f fd, mg name = some (.ref C) ∧ Mk K C f ∧ FnG P w K mg base CX k f fd ps sp ∧ Binds K fd ps []
theorem run_mkG {X : Cx} {CX : CXT} {k : Nat} {f C : Addr} {fd : FuncData} {ps : List Str} {sp : Sp} {E : XK} {pins : List (Addr × Obj)} {σ : L2.St} {H : Hp} {s : Shared} {Q : VK} {us : List Value} {vs : List V} (M : Mk X.K C f)
    (F : FnG X.prog X.w X.K X.mg X.base CX k f fd ps sp) (hr : RoomG (k + 1) X.A) (hb : Binds X.K fd ps []) (hx : Passes CX X E) (I : Inv X pins σ H s) (r : Vals vs us)
    (h : ∀ x dx, H x = none → H dx = none → dx ≠ x → sp (.ref x :: (vs ++ [])) (upd (upd H dx (.own x)) x (.ins C dx [])) (fun v H2 => v = .non ∧ Q (.ref x) H2) E) : wpAny (model X.prog X.w) X.A (call (.ref C) us) (EP X pins σ Q) X.xe s := by
  have hq := h (s.heap.objs.size + 1) s.heap.objs.size (I.hok.fresh (Nat.le_succ _)) (I.hok.fresh (Nat.le_refl _)) (Nat.ne_of_lt (Nat.lt_succ_self _))
  have J := Inv.made (C := C) I
  have q : Vals (V.ref (s.heap.objs.size + 1) :: (vs ++ [])) (Value.ref (s.heap.objs.size + 1) :: (us ++ [])) := .cons rfl (r.append .nil)
  have hl : (Value.ref (s.heap.objs.size + 1) :: us ++ []).length = ps.length := q.length.symm.trans (F.ln _ _ _ _ hq)
  have run := F.go _ X.stack _ _ ⟨Value.ref (s.heap.objs.size + 1) :: us, []⟩ (Value.ref (s.heap.objs.size + 1) :: (us ++ [])) _ _ E (hr.mk2 C us) (J.env0.make C us []) (by rw [← List.cons_append]; exact hb _ (Value.ref (s.heap.objs.size + 1) :: us) J.kIn hl) q hq
  refine wpAny_call (make_map (f := f) I.kIn M.makes M.init (beq_iff_eq.mp M.fn) (codeAny_mono run fun r z y => ?_))
  match r, y with
  | .error e, y => exact hx pins σ _ _ e z J y
  | .ok .next, y => exact y.elim
  | .ok .brk, y => exact y.elim
  | .ok .cont, y => exact y.elim
  | .ok (.ret u), y =>
    obtain ⟨v, G, J2, rv, ev, q3⟩ := J.after y
    subst ev
    exact ⟨rv, ⟨V.ref (s.heap.objs.size + 1), G, J2, rfl, q3⟩⟩
theorem pe_mk {X : Cx} {CX : CXT} {k : Nat} {ps : List Str} {sp : Sp} {x : Str} {C : Addr} {p pos : Pos} {e : Expr} {es : List Expr} {t : TA} {E : XK} (G : DefM X.prog X.w X.K X.mg X.base CX x k ps sp C) (hr : RoomG (k + 1) X.A) (hg : Gl X x) (hx : Passes CX X E) (ha : PA X (e :: es) t)
    (hdb : (x == ("__debug__" : Str)) = false := by decide) (he : starEach (e :: es) X.env = (false, eval e X.env) :: starEach es X.env := by rfl) (hpl : (backTo pos (starEach es X.env)).any (·.1) = false := by rfl) :
    PE X (.Call (.Name x p) (e :: es) [] pos) (tMake C sp [] E t) := by
  obtain ⟨f, fd, m, M, F, b⟩ := G.ex
  refine ⟨fun pins s σ H Q I h => wpAny_Call_Name_kw (ld_glob I hg m ?_ hdb)⟩
  exact PySem.W.callWith_K (h₀ := X.base) I.ok.mod.kin M.kp (thn (ha.run pos pins s σ H _ I h) fun us z ⟨vs, G, J, r, q⟩ => ⟨J.kIn, run_mkG M F hr b hx J r q⟩) he hpl
/-! ### own methods -/
/-! x != y: the contrary of the own == -/
/-! isinstance of a class of one's own -/
structure ClsO (K : PySem.W.Frag) (C : Addr) : Prop where
  ne : PySem.W.findIn K (.ref C) "__ne__" = some (some (.builtin "object.__ne__"))
  mo : PySem.W.mroIn K C (.type "object") = some true
  kc : PySem.W.findIn K (.ref C) "__class__" = some (some (.builtin "object.__class__"))
  kg : PySem.W.specialIn K (.builtin "object.__class__") "__get__" = some (some (.builtin "getset_descriptor.__get__"))
  kt : PySem.W.takesIn K (.builtin "object.__class__") = some true
  ki : PySem.W.kitOne K (.ref C) (.ref C) = some true
/-- a dict of the module has these texts as keys -/
def KDs (K : PySem.W.Frag) (w : World) (a : Addr) (ks : List Str) : Prop := (a == sysModules) = false ∧ ∀ z ∈ ks, ∃ v, KDct K w a z v
def tKGet (K : PySem.W.Frag) (w : World) (td ty : TE) : TE := fun σ H Q => td σ H fun x H1 => ty σ H1 fun y H2 => ∃ a z v, x = .ref a ∧ y = .str z ∧ (a == sysModules) = false ∧ KDct K w a z v ∧ Q v H2
def tNiK (K : PySem.W.Frag) (w : World) (ty td : TE) : TE := fun σ H Q => ty σ H fun y H1 => td σ H1 fun x H2 => ∃ a z v, x = .ref a ∧ y = .str z ∧ (a == sysModules) = false ∧ KDct K w a z v ∧ Q (.bl false) H2
theorem pc_niK {X : Cx} {i o : Expr} {ty td : TE} (hi : PE X i ty) (ho : PE X o td) : PC X .NotIn i o (tNiK X.K X.w ty td) := by
  refine ⟨fun pins s σ H Q I h => ?_⟩
  refine thn (hi.run pins s σ H _ I h) fun iv s1 ⟨y, H1, I1, ry, q1⟩ => thn (ho.run pins s1 σ H1 _ I1 q1) fun u s2 ⟨x, H2, I2, rx, a, z, v, ex, ey, low, ⟨es, n, u0, hl, hk, e, ru⟩, q2⟩ => ?_
  subst ex
  subst ey
  obtain rfl : u = Value.ref a := rx
  obtain ⟨t, rfl⟩ := (show ∃ t, iv = Value.str z t from ry)
  have hm := PySem.W.mapOf_K (prog := X.prog) (w := X.w) I2.kIn hl hk
  refine wpAny_notIn_of (strKind_is X.prog X.w z t) low hm ?_
  rw [PySem.W.find_K hl e]
  exact ⟨.bl false, H2, I2.tok _, rfl, q2⟩
/-! ### the top: the law is called where nothing is being shown -/
theorem top_core {P : Program} {w : World} {K : PySem.W.Frag} {mg mb : Str → Option Value} {CX : CXT} {k : Nat} {fa a : Addr} {fd : FuncData} {x : Str} {sp : Sp} {z : Shared} {vs : List Value} {ns : List Int} (kz : K.In z.heap) (g1 : z.heap.Ns mainGlobals mg) (g2 : z.heap.Ns builtinsNs mb)
    (g3 : ∀ y : Str, y ≠ "__name__" → mb y = bootBuiltins y) (lim : z.heap.NoLimit) (gn : z.gens = #[]) (ha : z.heap.get? a = some { cls := .type "list", data := .seq vs.toArray }) (hr : RoomG k callerA)
    (F : ∀ base : Heap, K.In base → base.Ns mainGlobals mg → FnG P w K mg base CX k fa fd [x] sp) (hb : ∀ (s : Shared) (u : Value), BindsTo s fd ⟨[u], []⟩ [(x, u)]) (hCX : ∀ H e s', CX [] H z (fun _ _ _ => False) e s' → False)
    (H : Hp) (hO : Only H) (hsp : sp [.ref a] H (fun v _ => v = .bl true) fun _ _ _ => False) (ok : HOk P w H z.heap) (hA : ∀ b, H b ≠ none → b = a) (hK : H a ≠ none → K.lookup a = none) :
    codeAny (model P w) callerA (.call (.ref fa) ⟨[.ref a], []⟩) (fun r s' => r = .ok (.ret (.bool true)) ∧ OldK z.heap s'.heap ∧ s'.os = z.os ∧ AllBare s'.gens) z := by
  have non : ∀ {b : Addr} {o : Obj} {es : Array DictEntry} {ep : Nat}, z.heap.get? b = some o → o.data = .dict es ep → H b = none := by
    intro b o es ep e d
    refine Classical.byContradiction fun q => ?_
    have eb := hA b q
    subst eb
    rw [ha] at e
    cases e
    cases (show Data.seq vs.toArray _ = Data.dict es ep from d)
  have nk : ∀ {b : Addr} {m : Str → Option Value}, z.heap.Ns b m → (hidT z.heap H).Ns b m := by
    rintro b m ⟨o, es, ep, e, d, r⟩
    exact ⟨o, es, ep, hidT_get e (non e d), d, r⟩
  have kb : K.In (hidT z.heap H) := by
    intro b o e
    refine hidT_get (kz b o e) (Classical.byContradiction fun q => ?_)
    have eb := hA b q
    subst eb
    rw [hK q] at e
    cases e
  have hM : Mod K mg (hidT z.heap H) := ⟨kb, nk g1, ⟨mb, nk g2, g3⟩, lim.elim fun mc h => ⟨mc, nk h.1, h.2⟩⟩
  have e0 : Env0 P w K mg (hidT z.heap H) callerA [] z H := ⟨rfl, hM, fun b o e => of_hidT e, Nat.le_of_eq (hidT_size _ _), trivial, (by intro b hb; cases (show b ∈ ([] : List Addr) from hb)), ok, .of_eq gn⟩
  refine codeAny_mono ((F _ kb (nk g1)).go callerA [] z H ⟨[.ref a], []⟩ [.ref a] [.ref a] _ _ hr e0 (hb z (.ref a)) (.cons rfl .nil) hsp) fun r s' h => ?_
  match r, h with
  | .error e, h => exact (hCX H e s' h).elim
  | .ok .next, h => exact h.elim
  | .ok .brk, h => exact h.elim
  | .ok .cont, h => exact h.elim
  | .ok (.ret u), h =>
    obtain ⟨v, G, os, bare, un, ok', rv, q⟩ := h
    have q : v = .bl true := q
    subst q
    obtain rfl : u = Value.bool true := rv
    refine ⟨rfl, OldK.of_keep fun b o e => ?_, os, bare⟩
    rcases hO b with y | ⟨ob, xs, y⟩
    · exact un.keep b o e y (by intro n; cases (show b ∈ ([] : List Addr) from n)) (by simp)
    · obtain ⟨e1, _⟩ := ok b _ y
      obtain ⟨e2, _⟩ := ok' b _ (un.frzs b ob _ y)
      rw [e] at e1
      cases e1
      exact e2
theorem top_run {P : Program} {w : World} {K : PySem.W.Frag} {mg mb : Str → Option Value} {CX : CXT} {k : Nat} {fa a : Addr} {fd : FuncData} {x : Str} {sp : Sp} {z : Shared} {vs : List Value} {ns : List Int} (kz : K.In z.heap) (g1 : z.heap.Ns mainGlobals mg) (g2 : z.heap.Ns builtinsNs mb)
    (g3 : ∀ y : Str, y ≠ "__name__" → mb y = bootBuiltins y) (lim : z.heap.NoLimit) (gn : z.gens = #[]) (ha : z.heap.get? a = some { cls := .type "list", data := .seq vs.toArray }) (hi : IntsAre vs ns) (hl : ns.length ≤ sizeLine) (hr : RoomG k callerA)
    (F : ∀ base : Heap, K.In base → base.Ns mainGlobals mg → FnG P w K mg base CX k fa fd [x] sp) (hb : ∀ (s : Shared) (u : Value), BindsTo s fd ⟨[u], []⟩ [(x, u)]) (hCX : ∀ H e s', CX [] H z (fun _ _ _ => False) e s' → False)
    (hsp : ∀ H : Hp, Only H → SqL K H a (ns.map V.int) → sp [.ref a] H (fun v _ => v = .bl true) fun _ _ _ => False) :
    codeAny (model P w) callerA (.call (.ref fa) ⟨[.ref a], []⟩) (fun r s' => r = .ok (.ret (.bool true)) ∧ OldK z.heap s'.heap ∧ s'.os = z.os ∧ AllBare s'.gens) z := by
  have rv := vals_ints hi
  have le := hi.length
  cases hk : K.lookup a with
  | some o =>
    have e := kz a o hk
    rw [ha] at e
    cases e
    have hO : Only (fun _ => none) := fun _ => .inl rfl
    exact top_core (ns := ns) kz g1 g2 g3 lim gn ha hr F hb hCX _ hO (hsp _ hO (.inr ⟨_, vs.toArray, _, hk, rfl, rfl, rfl, (by rw [List.size_toArray, le]; exact hl), (by simpa using rv)⟩)) (by intro b u y; cases (show (none : Option HO) = some u from y)) (by intro b y; exact absurd rfl y) (by intro y; exact absurd rfl y)
  | none =>
    have h1 : ∀ b u, (if b = a then some (HO.frz { cls := .type "list", data := .seq vs.toArray } (.lst (ns.map V.int))) else none) = some u → b = a ∧ u = HO.frz { cls := .type "list", data := .seq vs.toArray } (.lst (ns.map V.int)) := by
      intro b u y
      by_cases n : b = a
      · rw [if_pos n] at y
        cases y
        exact ⟨n, rfl⟩
      · rw [if_neg n] at y
        cases y
    have hO : Only (fun b => if b = a then some (HO.frz { cls := .type "list", data := .seq vs.toArray } (.lst (ns.map V.int))) else none) := fun b => by
      by_cases n : b = a
      · exact .inr ⟨_, _, if_pos n⟩
      · exact .inl (if_neg n)
    refine top_core (ns := ns) kz g1 g2 g3 lim gn ha hr F hb hCX _ hO (hsp _ hO (.inl (.inr ⟨{ cls := .type "list", data := .seq vs.toArray }, if_pos rfl⟩))) (fun b u y => ?_) (fun b y => ?_) (fun _ => hk)
    · obtain ⟨rfl, rfl⟩ := h1 b u y
      exact ⟨ha, by rw [List.length_map]; exact hl, vs, _, rv, ha⟩
    · by_cases n : b = a
      · exact n
      · exact absurd (if_neg n) y
theorem walk_g {l : PySem.W.OpenLaw} {n k : Nat} {q : Program} {loose : List Str} {XP : (Str → Option Value) → Heap → Prop} {YP : World → Heap → Prop} {d : DefRec} {K : Params → PySem.W.Frag} {CX : World → CXT} {sp : World → Sp} {x : Str}
    (hn : l.most = some n) (hn2 : n ≤ sizeLine) (hdf : d.params.defaults = []) (hr : RoomG k callerA) (hY : ∀ (w : World) (h : Heap), YP w h → (K w.params).In h)
    (F : ∀ (w : World) (mg : Str → Option Value) (fa : Addr) (h : Heap), (K w.params).In h → h.Ns mainGlobals mg → mg d.name = some (.ref fa) → ∃ fd : FuncData, (∀ (s : Shared) (u : Value), BindsTo s fd ⟨[u], []⟩ [(x, u)]) ∧
        ∀ base : Heap, (K w.params).In base → base.Ns mainGlobals mg → FnG l.prog w (K w.params) mg base (CX w) k fa fd [x] (sp w))
    (hsp : ∀ (w : World) (H : Hp) (a : Addr) (ns : List Int), ns.length ≤ n → Only H → SqL (K w.params) H a (ns.map V.int) → sp w [.ref a] H (fun v _ => v = .bl true) fun _ _ _ => False)
    (hCX : ∀ (w : World) (H : Hp) (s : Shared) (e : Value) (s' : Shared), CX w [] H s (fun _ _ _ => False) e s' → False) :
    PySem.W.WalkO q loose XP YP l.row.toRowW d [] (fun f vs => PySem.call f vs) := by
  refine Att.attach_call hn hdf fun w s0 z mg mb fa o pm cd dc a vs ns G Y ho hd hcd hmg hobj hi hl hg => ?_
  have kz := hY w _ Y
  obtain ⟨fd, hb, hF⟩ := F w mg fa _ kz G.T.g hmg
  exact top_run kz G.T.g G.T.b G.T.builtins G.T.nolimit hg hobj hi (Nat.le_trans hl hn2) hr hF hb (fun H e s' => hCX w H z e s') fun H hO hS => hsp w H a ns hl hO hS
/-! ### heaps -/
theorem sm_new {H : Hp} {p : Addr} {o : HO} (h : H p = none) : Sm H (upd H p o) := fun b x e => by
  rw [upd_ne (ne_of_none e h)]
  exact e
/-- all but b as it was -/
def Kp (b : Addr) (H H' : Hp) : Prop := ∀ a o, a ≠ b → H a = some o → H' a = some o
theorem Kp.refl {b : Addr} (H : Hp) : Kp b H H := fun _ _ _ h => h
theorem Kp.trans {b : Addr} {H H1 H2 : Hp} (x : Kp b H H1) (y : Kp b H1 H2) : Kp b H H2 := fun a o n h => y a o n (x a o n h)
theorem Kp.of {b : Addr} {H H1 : Hp} (x : Sm H H1) : Kp b H H1 := fun a o _ h => x a o h
theorem kp_upd {b : Addr} {H : Hp} {o : HO} : Kp b H (upd H b o) := fun a x n h => by rw [upd_ne n]; exact h
theorem ne_new {H : Hp} {p b : Addr} {o : HO} (hp : H p = none) (hb : H b = some o) : p ≠ b := fun e => by rw [e, hb] at hp; cases hp
theorem Same.get {H H' : Hp} {a : Addr} {o : HO} (h : Sm H H') (k : H a = some o) : H' a = some o := h a o k
theorem Kp.get {b : Addr} {H H' : Hp} {a : Addr} {o : HO} (h : Kp b H H') (n : a ≠ b) (k : H a = some o) : H' a = some o := h a o n k
theorem ne_new2 {H : Hp} {p b : Addr} {o : HO} (hp : H p = none) (hb : H b = some o) : b ≠ p := fun e => by rw [← e, hb] at hp; cases hp
theorem sm_mut {H H1 H2 : Hp} {p : Addr} (s : Sm H H1) (n : H p = none) (k : Kp p H1 H2) : Sm H H2 := fun a o h => k a o (ne_of_none h n) (s a o h)
theorem kp_mut {b : Addr} {H H1 H2 : Hp} {p : Addr} (s : Kp b H H1) (n : H p = none) (k : Kp p H1 H2) : Kp b H H2 := fun a o m h => k a o (ne_of_none h n) (s a o m h)
theorem kp_free {b : Addr} {H H1 : Hp} {p : Addr} (s : Kp b H H1) (m : p ≠ b) (n : H1 p = none) : H p = none := by
  cases e : H p with
  | none => rfl
  | some o => rw [s p o m e] at n; cases n
/-- a list that no one stores into: the script's -/
def SqF (K : PySem.W.Frag) (H : Hp) (a : Addr) (xs : List V) : Prop := (∃ o, H a = some (.frz o (.lst xs))) ∨
  ∃ (o : Obj) (its : Array Value) (n : Nat), K.lookup a = some o ∧ o.cls = .type "list" ∧ o.dict = none ∧ o.data = .seq its n ∧ its.size ≤ sizeLine ∧ Vals xs its.toList
theorem SqF.sq {K : PySem.W.Frag} {H : Hp} {a : Addr} {xs : List V} (h : SqF K H a xs) : SqL K H a xs := by
  rcases h with h | h
  · exact .inl (.inr h)
  · exact .inr h
theorem SqF.sm {K : PySem.W.Frag} {H H' : Hp} {a : Addr} {xs : List V} (h : SqF K H a xs) (e : Sm H H') : SqF K H' a xs := by
  rcases h with ⟨o, h⟩ | h
  · exact .inl ⟨o, e _ _ h⟩
  · exact .inr h
theorem SqF.kp {K : PySem.W.Frag} {H H' : Hp} {a b : Addr} {xs ys : List V} (h : SqF K H a xs) (hb : H b = some (.lst ys)) (e : Kp b H H') : SqF K H' a xs := by
  rcases h with ⟨o, h⟩ | h
  · exact .inl ⟨o, e _ _ (ne_of h hb (by intro z; cases z)) h⟩
  · exact .inr h
theorem SqF.of {K : PySem.W.Frag} {H : Hp} {a : Addr} {xs : List V} (hO : Only H) (h : SqL K H a xs) : SqF K H a xs := by
  rcases h with (h | h) | h
  · rcases hO a with e | ⟨o, ys, e⟩
    · rw [e] at h; cases h
    · rw [e] at h; cases h
  · exact .inl h
  · exact .inr h
theorem g_sqf {K : PySem.W.Frag} {H H0 : Hp} {a : Addr} {xs ys : List V} (_ : SqF K H0 a ys) (h : SqF K H a xs) : SqF K H a xs := h
theorem g_lk {H H0 : Hp} {a : Addr} {o o' : HO} (_ : H0 a = some o') (h : H a = some o) : H a = some o := h
theorem g_fr {H H0 : Hp} {a : Addr} (_ : H0 a = none) (h : H a = none) : H a = none := h
/-- a list of tuples of values as told -/
def AllT (P : List V → Prop) (xs : List V) (H : Hp) : Prop := ∀ x ∈ xs, ∃ t vs, x = .ref t ∧ H t = some (.tup vs) ∧ P vs
theorem AllT.nil {P : List V → Prop} {H : Hp} : AllT P [] H := fun _ h => by cases h
theorem AllT.sm {P : List V → Prop} {xs : List V} {H H' : Hp} (h : AllT P xs H) (e : Sm H H') : AllT P xs H' := fun x hx => by
  obtain ⟨t, vs, a, b, c⟩ := h x hx
  exact ⟨t, vs, a, e _ _ b, c⟩
theorem AllT.kp {P : List V → Prop} {xs ys : List V} {H H' : Hp} {b : Addr} (h : AllT P xs H) (hb : H b = some (.lst ys)) (e : Kp b H H') : AllT P xs H' := fun x hx => by
  obtain ⟨t, vs, a, k, c⟩ := h x hx
  exact ⟨t, vs, a, e _ _ (ne_of k hb (by intro z; cases z)) k, c⟩
theorem AllT.add {P : List V → Prop} {xs vs : List V} {H : Hp} {t : Addr} (h : AllT P xs H) (k : H t = some (.tup vs)) (p : P vs) : AllT P (xs ++ [.ref t]) H := fun x hx => by
  rcases List.mem_append.mp hx with hx | hx
  · exact h x hx
  · cases hx with
    | head => exact ⟨t, vs, rfl, k, p⟩
    | tail _ z => cases z
theorem AllT.app {P : List V → Prop} {xs ys : List V} {H : Hp} (h : AllT P xs H) (k : AllT P ys H) : AllT P (xs ++ ys) H := fun x hx => (List.mem_append.mp hx).elim (h x) (k x)
theorem AllT.cut {P : List V → Prop} {xs : List V} {lo hi : Option Int} {H : Hp} (h : AllT P xs H) : AllT P (cutV xs lo hi) H := fun x hx => h x (List.mem_of_mem_drop (List.mem_of_mem_take hx))
theorem AllT.at {P : List V → Prop} {xs : List V} {H : Hp} {n : Nat} {x : V} (h : AllT P xs H) (e : xs[n]? = some x) : ∃ t vs, x = .ref t ∧ H t = some (.tup vs) ∧ P vs := h x (List.mem_of_getElem? e)
theorem sq_of {K : PySem.W.Frag} {H : Hp} {a : Addr} {xs : List V} (h : H a = some (.lst xs)) : SqL K H a xs := Or.inl (Or.inl h)
theorem st_of {K : PySem.W.Frag} {H : Hp} {a : Addr} {xs : List V} (h : H a = some (.tup xs)) : SqT K H a xs := Or.inl (Or.inl h)
theorem kp_sq {K : PySem.W.Frag} {b : Addr} {H H' : Hp} {a : Addr} {xs : List V} (e : Kp b H H') (n : a ≠ b) (h : SqL K H a xs) : SqL K H' a xs := by
  rcases h with (h | ⟨o, h⟩) | h
  · exact .inl (.inl (e _ _ n h))
  · exact .inl (.inr ⟨o, e _ _ n h⟩)
  · exact .inr h
theorem sm_sq {K : PySem.W.Frag} {H H' : Hp} {a : Addr} {xs : List V} (e : Sm H H') (h : SqL K H a xs) : SqL K H' a xs := e.seq h
theorem sz_of {n : Nat} (h : n ≤ 100000) : n ≤ sizeLine := Nat.le_trans h (by decide)
theorem sz_lt {n : Nat} (h : n < 100000) : n < sizeLine := Nat.lt_of_lt_of_le h (by decide)
/-! ### what follows, by names of our own -/
def NX (D : Ends) : L2.St → Hp → Prop := D.nx
def RT (D : Ends) : VK := D.rt
def IsBl (x : V) (R : Bool → Prop) : Prop := ∃ k, x = .bl k ∧ R k
def SpC (sp : Sp) (vs : List V) (H : Hp) (Q : VK) (E : XK) : Prop := sp (vs ++ []) H Q E
def PartE (R : Option Int → Hp → Prop) (x : V) (H : Hp) : Prop := ∃ i, x = .int i ∧ R (some i) H
def BmE (K : PySem.W.Frag) (T : String) (x : V) (H : Hp) (R : Prop) : Prop := tyV K T x H ∧ R
def En (n : L2.St → Hp → Prop) (r : VK) (b c : L2.St → Hp → Prop) : Ends := { nx := n, rt := r, bk := b, ct := c }
/-! ### loops -/
def Rg1 (R : It → Hp → Prop) (vs : List V) (H : Hp) : Prop := ∃ j : Int, vs = [.int j] ∧ -(2 ^ 62) ≤ j ∧ j < 2 ^ 62 ∧ R (Itr 0 j.toNat) H
def Rg2 (R : It → Hp → Prop) (vs : List V) (H : Hp) : Prop := ∃ i j : Int, vs = [.int i, .int j] ∧ (-(2 ^ 62) ≤ i ∧ i < 2 ^ 62 ∧ -(2 ^ 62) ≤ j ∧ j < 2 ^ 62) ∧ R (Itr i (j - i).toNat) H
def LsE (K : PySem.W.Frag) (R : It → Hp → Prop) (x : V) (H : Hp) : Prop := ∃ a, x = .ref a ∧ (∃ xs, SqL K H a xs) ∧ R (Itl K a) H
def TpE (K : PySem.W.Frag) (R : It → Hp → Prop) (x : V) (H : Hp) : Prop := ∃ a, x = .ref a ∧ (∃ xs, SqT K H a xs) ∧ R (Itt K a) H
def Loop (J : It) (g : TG) (tb : TS) : TS := fun D σ H => ∃ W : Nat → Nat → L2.St → Hp → Prop, (∃ m, W 0 m σ H) ∧ ∀ i m σ H, W i m σ H →
  (J.stop i H ∧ D.nx σ H) ∨ (J.go i H ∧ ∃ N : L2.St → Hp → Prop, (∀ σ' H', N σ' H' → ∃ m', m' < m ∧ W (i + 1) m' σ' H') ∧ ∀ x H', J.yld i H x H' → g x σ H' fun σ2 H2 => tb { D with nx := N, ct := N, bk := D.nx } σ2 H2)
section
variable {σ : L2.St} {H : Hp} {D : Ends} {K : PySem.W.Frag} {g : TG} {tb : TS} {ta : TA} {te : TE} {c : TT}
theorem w_for {wi : TI} (k : wi σ H fun J H1 => Loop J g tb D σ H1) : tFor wi g tb D σ H := k
theorem w_iR1 {R : It → Hp → Prop} (k : ta σ H fun vs H1 => Rg1 R vs H1) : iRng1 ta σ H R := k
theorem w_iR1e {n : Int} {R : It → Hp → Prop} (h1 : -(2 ^ 62) ≤ n) (h2 : n < 2 ^ 62) (k : R (Itr 0 n.toNat) H) : Rg1 R [V.int n] H := ⟨n, rfl, h1, h2, k⟩
theorem w_iR2 {R : It → Hp → Prop} (k : ta σ H fun vs H1 => Rg2 R vs H1) : iRng2 ta σ H R := k
theorem w_iR2e {m n : Int} {R : It → Hp → Prop} (h : -(2 ^ 62) ≤ m ∧ m < 2 ^ 62 ∧ -(2 ^ 62) ≤ n ∧ n < 2 ^ 62) (k : R (Itr m (n - m).toNat) H) : Rg2 R [V.int m, V.int n] H := ⟨m, n, rfl, h, k⟩
theorem w_iL {R : It → Hp → Prop} (k : te σ H fun x H1 => LsE K R x H1) : iList K te σ H R := k
theorem w_iLe {a : Addr} {xs : List V} {R : It → Hp → Prop} (h : SqL K H a xs) (k : R (Itl K a) H) : LsE K R (.ref a) H := ⟨a, rfl, ⟨xs, h⟩, k⟩
theorem w_iT {R : It → Hp → Prop} (k : te σ H fun x H1 => TpE K R x H1) : iTup K te σ H R := k
theorem w_iTe {a : Addr} {xs : List V} {R : It → Hp → Prop} (h : SqT K H a xs) (k : R (Itt K a) H) : TpE K R (.ref a) H := ⟨a, rfl, ⟨xs, h⟩, k⟩
theorem loopR {lo : Int} {n : Nat} (Pv : Nat → L2.St → Hp → Prop) (h0 : Pv 0 σ H) (hs : ∀ i σ H, i < n → Pv i σ H → g (.int (lo + i)) σ H fun σ2 H2 => tb (En (Pv (i + 1)) (RT D) (NX D) (Pv (i + 1))) σ2 H2)
    (hd : ∀ σ H, Pv n σ H → NX D σ H) : Loop (Itr lo n) g tb D σ H := for_range Pv h0 hs hd
theorem loopL {a : Addr} {xs : List V} (Pv : Nat → L2.St → Hp → Prop) (h0 : Pv 0 σ H) (hl : ∀ i σ H, i ≤ xs.length → Pv i σ H → SqL K H a xs)
    (hs : ∀ i x σ H, xs[i]? = some x → Pv i σ H → g x σ H fun σ2 H2 => tb (En (Pv (i + 1)) (RT D) (NX D) (Pv (i + 1))) σ2 H2) (hd : ∀ σ H, Pv xs.length σ H → NX D σ H) : Loop (Itl K a) g tb D σ H := for_list Pv h0 hl hs hd
theorem loopT {a : Addr} {xs : List V} (Pv : Nat → L2.St → Hp → Prop) (h0 : Pv 0 σ H) (hl : ∀ i σ H, i ≤ xs.length → Pv i σ H → SqT K H a xs)
    (hs : ∀ i x σ H, xs[i]? = some x → Pv i σ H → g x σ H fun σ2 H2 => tb (En (Pv (i + 1)) (RT D) (NX D) (Pv (i + 1))) σ2 H2) (hd : ∀ σ H, Pv xs.length σ H → NX D σ H) : Loop (Itt K a) g tb D σ H := for_tup Pv h0 hl hs hd
def WT (Pv : Nat → L2.St → Hp → Prop) (m : Nat) (tb : TS) (D : Ends) (σ : L2.St) (H : Hp) : Prop := ∃ N : L2.St → Hp → Prop, (∀ σ' H', N σ' H' → ∃ m', m' < m ∧ Pv m' σ' H') ∧ tb { D with nx := N, ct := N, bk := D.nx } σ H
def WN (Pv : Nat → L2.St → Hp → Prop) (m : Nat) : L2.St → Hp → Prop := fun σ2 H2 => ∃ m', m' < m ∧ Pv m' σ2 H2
theorem w_wt {Pv : Nat → L2.St → Hp → Prop} {m : Nat} (k : tb (En (WN Pv m) (RT D) (NX D) (WN Pv m)) σ H) : WT Pv m tb D σ H := ⟨_, fun _ _ z => z, k⟩
theorem w_while (Pv : Nat → L2.St → Hp → Prop) (m0 : Nat) (h0 : Pv m0 σ H)
    (hs : ∀ m σ' H', Pv m σ' H' → c σ' H' fun b H1 => if b = true then WT Pv m tb D σ' H1 else NX D σ' H1) : tWhile c tb D σ H := ⟨Pv, ⟨m0, h0⟩, hs⟩
end
/-! ### list comprehensions -/
def LcL (J : It) (g : TG) (tt : TT) (te : TE) (vs : List Nat) (σ : L2.St) (H1 : Hp) (Q : VK) : Prop := ∀ D, H1 D = none → ∃ W : Nat → Nat → Hp → Prop, (∃ m, W 0 m (upd H1 D (.lst []))) ∧ ∀ i m H, W i m H →
  (J.stop i H ∧ Q (.ref D) H) ∨ (J.go i H ∧ ∃ Nx : Hp → Prop, (∀ H', Nx H' → ∃ m', m' < m ∧ W (i + 1) m' H') ∧ ∀ x H', J.yld i H x H' → g x (wipe σ vs) H' fun σ2 H2 => wipe σ2 vs = wipe σ vs ∧ tt σ2 H2 fun b H3 =>
    if b = true then te σ2 H3 fun y H4 => ∃ acc, H4 D = some (.lst acc) ∧ acc.length < sizeLine ∧ Nx (upd H4 D (.lst (acc ++ [y]))) else Nx H3)
def LcEnd (D : Addr) (y : V) (R : Hp → Prop) (H : Hp) : Prop := ∃ acc, H D = some (.lst acc) ∧ acc.length < sizeLine ∧ R (upd H D (.lst (acc ++ [y])))
def LcGo (vs : List Nat) (σ σ2 : L2.St) (R : Prop) : Prop := wipe σ2 vs = wipe σ vs ∧ R
section
variable {σ : L2.St} {H : Hp} {Q : VK} {g : TG} {tt : TT} {te : TE} {vs : List Nat} {K : PySem.W.Frag}
theorem w_lc {wi : TI} (k : wi σ H fun J H1 => LcL J g tt te vs σ H1 Q) : tLc wi g tt te vs σ H Q := k
theorem w_lcEnd {D : Addr} {y : V} {acc : List V} {R : Hp → Prop} (h : H D = some (.lst acc)) (z : acc.length < sizeLine) (k : ∀ H', Kp D H H' → H' D = some (.lst (acc ++ [y])) → R H') : LcEnd D y R H := ⟨acc, h, z, k _ kp_upd upd_same⟩
theorem w_lcGo {σ2 : L2.St} {R : Prop} (e : wipe σ2 vs = wipe σ vs) (k : R) : LcGo vs σ σ2 R := ⟨e, k⟩
theorem w_yes {QT : Bool → Hp → Prop} (k : QT true H) : tYes σ H QT := k
theorem lcR {lo : Int} {n : Nat} (Pv : Addr → Nat → Hp → Prop) (h0 : ∀ D H', H D = none → Sm H H' → H' D = some (.lst []) → Pv D 0 H')
    (hs : ∀ D i H', H D = none → i < n → Pv D i H' → g (.int (lo + i)) (wipe σ vs) H' fun σ2 H2 => LcGo vs σ σ2 (tt σ2 H2 fun b H3 => if b = true then te σ2 H3 fun y H4 => LcEnd D y (Pv D (i + 1)) H4 else Pv D (i + 1) H3))
    (hd : ∀ D H', H D = none → Pv D n H' → Q (.ref D) H') : LcL (Itr lo n) g tt te vs σ H Q := fun D hD =>
  lc_range (Pv D) (h0 D _ hD (sm_new hD) upd_same) (fun i H' hi p => hs D i H' hD hi p) (fun H' p => hd D H' hD p)
theorem lcLs {a : Addr} {xs : List V} (Pv : Addr → Nat → Hp → Prop) (h0 : ∀ D H', H D = none → Sm H H' → H' D = some (.lst []) → Pv D 0 H') (hl : ∀ D i H', H D = none → i ≤ xs.length → Pv D i H' → SqL K H' a xs)
    (hs : ∀ D i x H', H D = none → xs[i]? = some x → Pv D i H' → g x (wipe σ vs) H' fun σ2 H2 => LcGo vs σ σ2 (tt σ2 H2 fun b H3 => if b = true then te σ2 H3 fun y H4 => LcEnd D y (Pv D (i + 1)) H4 else Pv D (i + 1) H3))
    (hd : ∀ D H', H D = none → Pv D xs.length H' → Q (.ref D) H') : LcL (Itl K a) g tt te vs σ H Q := fun D hD =>
  lc_list (xs := xs) (Pv D) (h0 D _ hD (sm_new hD) upd_same) (fun i H' hi p => hl D i H' hD hi p) (fun i x H' hi p => hs D i x H' hD hi p) (fun H' p => hd D H' hD p)
end
/-! ### keywords -/
/-! ### steps -/
section
variable {σ : L2.St} {H : Hp} {Q : VK} {QT : Bool → Hp → Prop} {QA : List V → Hp → Prop} {D : Ends} {K : PySem.W.Frag} {te ta tb : TE} {tt tu : TT} {t1 t2 : TS} {v x y : V} {i j : Int} {b : Bool}
theorem w_var {n : Nat} (h : σ[n]? = some (some v)) (k : Q v H) : tVar n σ H Q := ⟨v, h, k⟩
theorem w_c (k : Q v H) : tC v σ H Q := k
theorem w_op {r : R2} (k : ta σ H fun x H1 => tb σ H1 fun y H2 => r x y H2 Q) : tOp r ta tb σ H Q := k
theorem w_un {r : V → Hp → VK → Prop} (k : ta σ H fun x H1 => r x H1 Q) : tUn r ta σ H Q := k
theorem w_rU {g : Int → V} (k : Q (g i) H) : rU g (.int i) H Q := ⟨i, rfl, k⟩
theorem inV_S2 {s a c : Str} : inV (.str s) [.str a, .str c] = decide (s = a ∨ s = c) := by
  show ((a == s) || ((c == s) || false)) = _
  rw [Bool.or_false]
  by_cases h1 : s = a
  · subst h1; simp
  · by_cases h2 : s = c
    · subst h2; simp
    · have e1 : (a == s) = false := by simpa using fun e : a = s => h1 e.symm
      have e2 : (c == s) = false := by simpa using fun e : c = s => h2 e.symm
      rw [e1, e2, decide_eq_false (by rintro (h | h); exact h1 h; exact h2 h)]
      rfl
theorem w_inS2 {p : Addr} {s a c : Str} (h : SqT K H p [.str a, .str c]) (k : Q (.bl (decide (s = a ∨ s = c))) H) : rIn K false (.str s) (.ref p) H Q := ⟨p, _, rfl, .inr h, rfl, rfl, by rw [inV_S2]; exact k⟩
theorem w_niS2 {p : Addr} {s a c : Str} (h : SqT K H p [.str a, .str c]) (k : Q (.bl (!decide (s = a ∨ s = c))) H) : rIn K true (.str s) (.ref p) H Q := ⟨p, _, rfl, .inr h, rfl, rfl, by rw [inV_S2]; exact k⟩
theorem w_cb {r : List V → Hp → VK → Prop} {t : TA} (k : t σ H fun vs H1 => r vs H1 Q) : tCB r t σ H Q := k
theorem w_nil (k : QA [] H) : tNil σ H QA := k
theorem w_cons {tr : TA} (k : ta σ H fun x H1 => tr σ H1 fun xs H2 => QA (x :: xs) H2) : tCons ta tr σ H QA := k
def NewL (xs : List V) (H : Hp) (Q : VK) : Prop := xs.length ≤ sizeLine ∧ ∀ p, H p = none → Q (.ref p) (upd H p (.lst xs))
def NewT (xs : List V) (H : Hp) (Q : VK) : Prop := xs.length ≤ sizeLine ∧ ∀ p, H p = none → Q (.ref p) (upd H p (.tup xs))
theorem w_lst {t : TA} (k : t σ H fun xs H1 => NewL xs H1 Q) : tLst t σ H Q := k
theorem w_tup {t : TA} (k : t σ H fun xs H1 => NewT xs H1 Q) : tTup t σ H Q := k
theorem w_newL {xs : List V} (z : xs.length ≤ sizeLine) (k : ∀ p H', H p = none → Sm H H' → H' p = some (.lst xs) → Q (.ref p) H') : NewL xs H Q := ⟨z, fun p hp => k p _ hp (sm_new hp) upd_same⟩
theorem w_newT {xs : List V} (z : xs.length ≤ sizeLine) (k : ∀ p H', H p = none → Sm H H' → H' p = some (.tup xs) → Q (.ref p) H') : NewT xs H Q := ⟨z, fun p hp => k p _ hp (sm_new hp) upd_same⟩
theorem w_call {sp : Sp} {E : XK} {t : TA} (k : t σ H fun vs H1 => SpC sp vs H1 Q E) : tCall sp [] E t σ H Q := k
theorem w_sp {sp : Sp} {E : XK} {vs : List V} (k : sp vs H Q E) : SpC sp vs H Q E := by unfold SpC; rw [List.append_nil]; exact k
theorem w_callK {sp : Sp} {gV : List V → List V → List V} {E : XK} {t tk : TA} (k : t σ H fun vs H1 => tk σ H1 fun zs H2 => sp (gV vs zs) H2 Q E) : tCallK sp gV E t tk σ H Q := k
/-! values of operations -/
theorem w_ixL' {p : Addr} {xs : List V} (h : SqL K H p xs) (a : atI xs i = some v) (k : Q v H) : rIx K (.ref p) (.int i) H Q := .inl ⟨p, xs, i, v, rfl, rfl, h, a, k⟩
theorem w_addI (k : Q (.int (i + j)) H) : gAdd K (.int i) (.int j) H Q := .inl ⟨i, j, rfl, rfl, k⟩
theorem w_addS {a b : Str} (z : a.length + b.length ≤ sizeLine) (k : Q (.str (a ++ b)) H) : gAdd K (.str a) (.str b) H Q := .inr (.inl ⟨a, b, rfl, rfl, z, k⟩)
theorem w_addL {l m : Addr} {xs ys : List V} (h1 : H l = some (.lst xs)) (h2 : H m = some (.lst ys)) (z : xs.length + ys.length ≤ sizeLine) (k : ∀ p H', H p = none → Sm H H' → H' p = some (.lst (xs ++ ys)) → Q (.ref p) H') :
    gAdd K (.ref l) (.ref m) H Q := .inr (.inr (.inl ⟨l, m, xs, ys, rfl, rfl, h1, h2, z, fun p hp => k p _ hp (sm_new hp) upd_same⟩))
theorem w_I0 {g : Int → Int → V} (k : Q (g i j) H) : rI0 g (.int i) (.int j) H Q := ⟨i, j, rfl, rfl, k⟩
theorem w_mulI (c : CM i j) (k : Q (.int (i * j)) H) : gMul (.int i) (.int j) H Q := by
  rcases c with c | c
  · exact .inl ⟨i, j, rfl, rfl, c, k⟩
  · exact .inr (.inl ⟨i, j, rfl, rfl, c, k⟩)
theorem w_divI (c : CDivW i j) (k : Q (.int (i / j)) H) : gDiv (.int i) (.int j) H Q := ⟨i, j, rfl, rfl, c, k⟩
theorem w_modI (c : 0 < j) (k : Q (.int (i % j)) H) : gMod (.int i) (.int j) H Q := ⟨i, j, rfl, rfl, c, k⟩
theorem w_modF (c : 0 < j) (k : ∀ z : Int, z = i % j → 0 ≤ z → z < j → (0 ≤ i → z ≤ i) → Q (.int z) H) : gMod (.int i) (.int j) H Q :=
  w_modI c (k _ rfl (Int.emod_nonneg _ (Int.ne_of_gt c)) (Int.emod_lt_of_pos _ c) fun h => by
    by_cases h2 : i < j
    · rw [Int.emod_eq_of_lt h h2]; exact Int.le_refl _
    · have := Int.emod_lt_of_pos i c
      omega)
theorem w_shlI (c : CShl i j) (k : Q (.int (i * 2 ^ j.toNat)) H) : gShl (.int i) (.int j) H Q := ⟨i, j, rfl, rfl, c, k⟩
theorem w_powI (c : CPow i j) (k : Q (.int (i ^ j.toNat)) H) : gPow (.int i) (.int j) H Q := ⟨i, j, rfl, rfl, c, k⟩
theorem w_shr1 (k : Q (.int (i / 2)) H) : gShr (.int i) (.int 1) H Q := ⟨i, 1, rfl, rfl, (show (0 : Int) ≤ 1 by decide), (show Q (.int (i / 2 ^ Int.toNat 1)) H from k)⟩
theorem w_iaddI (k : Q (.int (i + j)) H) : gIAdd (.int i) (.int j) H Q := .inl ⟨i, j, rfl, rfl, k⟩
theorem w_imulI (c : CM i j) (k : Q (.int (i * j)) H) : gIMul (.int i) (.int j) H Q := by
  rcases c with c | c
  · exact .inl ⟨i, j, rfl, rfl, c, k⟩
  · exact .inr ⟨i, j, rfl, rfl, c, k⟩
theorem w_xorI (k : Q (.int (Builtin.bitXor i j)) H) : gXor (.int i) (.int j) H Q := ⟨i, j, rfl, rfl, k⟩
theorem w_isiIb (k : Q (.bl false) H) : rIsi K [.int i, .ty "bool"] H Q := ⟨_, _, _, _, _, rfl, .ty _, .base (.int _), kit_ty (by decide +kernel), k⟩
theorem w_isiIi (k : Q (.bl true) H) : rIsi K [.int i, .ty "int"] H Q := ⟨_, _, _, _, _, rfl, .ty _, .base (.int _), kit_ty (by decide +kernel), k⟩
theorem w_isiBb (k : Q (.bl true) H) : rIsi K [.bl b, .ty "bool"] H Q := ⟨_, _, _, _, _, rfl, .ty _, .base (.bl _), kit_ty (by decide +kernel), k⟩
theorem w_isiSs {s : Str} (k : Q (.bl true) H) : rIsi K [.str s, .ty "str"] H Q := ⟨_, _, _, _, _, rfl, .ty _, .base (.str _), kit_ty (by decide +kernel), k⟩
theorem w_isiTup {a : Addr} {xs : List V} (h : H a = some (.tup xs)) (k : Q (.bl true) H) : rIsi K [.ref a, .ty "tuple"] H Q := ⟨_, _, _, _, _, rfl, .ty _, .base (.tup h), kit_ty (by decide +kernel), k⟩
theorem w_ixInts {p : Addr} {ns : List Int} (h : SqL K H p (ns.map V.int)) (h0 : 0 ≤ i) (h1 : i < ((ns.map V.int).length : Int)) (k : ∀ n : Int, n ∈ ns → Q (.int n) H) : rIx K (.ref p) (.int i) H Q := by
  obtain ⟨j, rfl⟩ := Int.eq_ofNat_of_zero_le h0
  have h2 : j < ns.length := by rw [List.length_map] at h1; omega
  exact w_ixL' h (atI_nat (by rw [List.getElem?_map, List.getElem?_eq_getElem h2]; rfl)) (k _ (List.getElem_mem h2))
theorem w_ix2I {p : Addr} {x y : Int} (h : SqL K H p [.int x, .int y]) (h0 : 0 ≤ i) (h1 : i < 2) (k : ∀ z : Int, i = 0 ∧ z = x ∨ i = 1 ∧ z = y → Q (.int z) H) : rIx K (.ref p) (.int i) H Q := by
  rcases (show i = 0 ∨ i = 1 by omega) with rfl | rfl
  · exact w_ixL' h (atI_nat (j := 0) rfl) (k _ (.inl ⟨rfl, rfl⟩))
  · exact w_ixL' h (atI_nat (j := 1) rfl) (k _ (.inr ⟨rfl, rfl⟩))
theorem w_ix3I {p : Addr} {x0 x1 x2 : Int} (h : SqL K H p [.int x0, .int x1, .int x2]) (h0 : 0 ≤ i) (h1 : i < 3) (k : ∀ z : Int, z = x0 ∨ z = x1 ∨ z = x2 → Q (.int z) H) : rIx K (.ref p) (.int i) H Q := by
  rcases (show i = 0 ∨ i = 1 ∨ i = 2 by omega) with rfl | rfl | rfl
  · exact w_ixL' h (atI_nat (j := 0) rfl) (k _ (by omega))
  · exact w_ixL' h (atI_nat (j := 1) rfl) (k _ (by omega))
  · exact w_ixL' h (atI_nat (j := 2) rfl) (k _ (by omega))
theorem w_ix4I {p : Addr} {x0 x1 x2 x3 : Int} (h : SqL K H p [.int x0, .int x1, .int x2, .int x3]) (h0 : 0 ≤ i) (h1 : i < 4) (k : ∀ z : Int, z = x0 ∨ z = x1 ∨ z = x2 ∨ z = x3 → Q (.int z) H) : rIx K (.ref p) (.int i) H Q := by
  rcases (show i = 0 ∨ i = 1 ∨ i = 2 ∨ i = 3 by omega) with rfl | rfl | rfl | rfl
  · exact w_ixL' h (atI_nat (j := 0) rfl) (k _ (by omega))
  · exact w_ixL' h (atI_nat (j := 1) rfl) (k _ (by omega))
  · exact w_ixL' h (atI_nat (j := 2) rfl) (k _ (by omega))
  · exact w_ixL' h (atI_nat (j := 3) rfl) (k _ (by omega))
theorem w_ix5I {p : Addr} {x0 x1 x2 x3 x4 : Int} (h : SqL K H p [.int x0, .int x1, .int x2, .int x3, .int x4]) (h0 : 0 ≤ i) (h1 : i < 5) (k : ∀ z : Int, z = x0 ∨ z = x1 ∨ z = x2 ∨ z = x3 ∨ z = x4 → Q (.int z) H) : rIx K (.ref p) (.int i) H Q := by
  rcases (show i = 0 ∨ i = 1 ∨ i = 2 ∨ i = 3 ∨ i = 4 by omega) with rfl | rfl | rfl | rfl | rfl
  · exact w_ixL' h (atI_nat (j := 0) rfl) (k _ (by omega))
  · exact w_ixL' h (atI_nat (j := 1) rfl) (k _ (by omega))
  · exact w_ixL' h (atI_nat (j := 2) rfl) (k _ (by omega))
  · exact w_ixL' h (atI_nat (j := 3) rfl) (k _ (by omega))
  · exact w_ixL' h (atI_nat (j := 4) rfl) (k _ (by omega))
theorem w_ix6I {p : Addr} {x0 x1 x2 x3 x4 x5 : Int} (h : SqL K H p [.int x0, .int x1, .int x2, .int x3, .int x4, .int x5]) (h0 : 0 ≤ i) (h1 : i < 6) (k : ∀ z : Int, z = x0 ∨ z = x1 ∨ z = x2 ∨ z = x3 ∨ z = x4 ∨ z = x5 → Q (.int z) H) : rIx K (.ref p) (.int i) H Q := by
  rcases (show i = 0 ∨ i = 1 ∨ i = 2 ∨ i = 3 ∨ i = 4 ∨ i = 5 by omega) with rfl | rfl | rfl | rfl | rfl | rfl
  · exact w_ixL' h (atI_nat (j := 0) rfl) (k _ (by omega))
  · exact w_ixL' h (atI_nat (j := 1) rfl) (k _ (by omega))
  · exact w_ixL' h (atI_nat (j := 2) rfl) (k _ (by omega))
  · exact w_ixL' h (atI_nat (j := 3) rfl) (k _ (by omega))
  · exact w_ixL' h (atI_nat (j := 4) rfl) (k _ (by omega))
  · exact w_ixL' h (atI_nat (j := 5) rfl) (k _ (by omega))
theorem w_ix7I {p : Addr} {x0 x1 x2 x3 x4 x5 x6 : Int} (h : SqL K H p [.int x0, .int x1, .int x2, .int x3, .int x4, .int x5, .int x6]) (h0 : 0 ≤ i) (h1 : i < 7) (k : ∀ z : Int, z = x0 ∨ z = x1 ∨ z = x2 ∨ z = x3 ∨ z = x4 ∨ z = x5 ∨ z = x6 → Q (.int z) H) : rIx K (.ref p) (.int i) H Q := by
  rcases (show i = 0 ∨ i = 1 ∨ i = 2 ∨ i = 3 ∨ i = 4 ∨ i = 5 ∨ i = 6 by omega) with rfl | rfl | rfl | rfl | rfl | rfl | rfl
  · exact w_ixL' h (atI_nat (j := 0) rfl) (k _ (by omega))
  · exact w_ixL' h (atI_nat (j := 1) rfl) (k _ (by omega))
  · exact w_ixL' h (atI_nat (j := 2) rfl) (k _ (by omega))
  · exact w_ixL' h (atI_nat (j := 3) rfl) (k _ (by omega))
  · exact w_ixL' h (atI_nat (j := 4) rfl) (k _ (by omega))
  · exact w_ixL' h (atI_nat (j := 5) rfl) (k _ (by omega))
  · exact w_ixL' h (atI_nat (j := 6) rfl) (k _ (by omega))
theorem w_ix8I {p : Addr} {x0 x1 x2 x3 x4 x5 x6 x7 : Int} (h : SqL K H p [.int x0, .int x1, .int x2, .int x3, .int x4, .int x5, .int x6, .int x7]) (h0 : 0 ≤ i) (h1 : i < 8) (k : ∀ z : Int, z = x0 ∨ z = x1 ∨ z = x2 ∨ z = x3 ∨ z = x4 ∨ z = x5 ∨ z = x6 ∨ z = x7 → Q (.int z) H) : rIx K (.ref p) (.int i) H Q := by
  rcases (show i = 0 ∨ i = 1 ∨ i = 2 ∨ i = 3 ∨ i = 4 ∨ i = 5 ∨ i = 6 ∨ i = 7 by omega) with rfl | rfl | rfl | rfl | rfl | rfl | rfl | rfl
  · exact w_ixL' h (atI_nat (j := 0) rfl) (k _ (by omega))
  · exact w_ixL' h (atI_nat (j := 1) rfl) (k _ (by omega))
  · exact w_ixL' h (atI_nat (j := 2) rfl) (k _ (by omega))
  · exact w_ixL' h (atI_nat (j := 3) rfl) (k _ (by omega))
  · exact w_ixL' h (atI_nat (j := 4) rfl) (k _ (by omega))
  · exact w_ixL' h (atI_nat (j := 5) rfl) (k _ (by omega))
  · exact w_ixL' h (atI_nat (j := 6) rfl) (k _ (by omega))
  · exact w_ixL' h (atI_nat (j := 7) rfl) (k _ (by omega))
theorem shl1_ok (h0 : 0 ≤ j) (h : j ≤ 1000000) : CShl 1 j := by
  refine ⟨h0, ?_⟩
  have : Builtin.Int.intBits 1 ≤ 1 := intBits_le (by decide)
  omega
theorem pow_bd {m : Nat} (h : j ≤ (m : Int)) : 1 ≤ 1 * (2 : Int) ^ j.toNat ∧ 1 * (2 : Int) ^ j.toNat ≤ 2 ^ m ∧ (1 ≤ j → 2 ≤ 1 * (2 : Int) ^ j.toNat) := by
  have e : ∀ n : Nat, (2 : Int) ^ n = ((2 ^ n : Nat) : Int) := fun n => by rw [Int.natCast_pow]; rfl
  have h1 : 2 ^ j.toNat ≤ 2 ^ m := Nat.pow_le_pow_right (by decide) (by omega)
  have h2 : 0 < 2 ^ j.toNat := Nat.two_pow_pos _
  rw [Int.one_mul, e, e]
  refine ⟨by omega, by omega, fun hj => ?_⟩
  have h3 : 2 ^ 1 ≤ 2 ^ j.toNat := Nat.pow_le_pow_right (by decide) (by omega)
  omega
theorem and_nat {a b : Nat} : Builtin.bitAnd (a : Int) (b : Int) = ((a &&& b : Nat) : Int) := by
  have h := bitAnd_pp (Int.natCast_nonneg a) (Int.natCast_nonneg b)
  rw [Int.toNat_natCast, Int.toNat_natCast] at h
  exact h
theorem and_bd (h0 : 0 ≤ i) (h1 : 0 ≤ j) : 0 ≤ Builtin.bitAnd i j ∧ Builtin.bitAnd i j ≤ i ∧ Builtin.bitAnd i j ≤ j := by
  obtain ⟨a, rfl⟩ := Int.eq_ofNat_of_zero_le h0
  obtain ⟨b, rfl⟩ := Int.eq_ofNat_of_zero_le h1
  rw [and_nat]
  have e1 := @Nat.and_le_left a b
  have e2 := @Nat.and_le_right a b
  omega
def gOr : R2 := rI0 fun i j => .int (Builtin.bitOr i j)
theorem w_orF (h0 : 0 ≤ i) (h1 : 0 ≤ j) (k : ∀ z : Int, z = Builtin.bitOr i j → 0 ≤ z → z ≤ i + j → Q (.int z) H) : gOr (.int i) (.int j) H Q := ⟨i, j, rfl, rfl, k _ rfl (by rw [L2.bitOr_nn h0 h1]; exact Int.natCast_nonneg _) (by rw [bitOr_and]; have := (and_bd h0 h1).1; omega)⟩
theorem dV_bl {s t : Bool} : decide (V.bl s = V.bl t) = decide (s = t) := by cases s <;> cases t <;> rfl
theorem w_eqB {s t : Bool} (k : Q (.bl (decide (s = t))) H) : gEq K (.bl s) (.bl t) H Q := .inl ⟨rfl, by rw [dV_bl]; exact k⟩
theorem w_neB {s t : Bool} (k : Q (.bl (!decide (s = t))) H) : gNe K (.bl s) (.bl t) H Q := .inl ⟨rfl, by rw [dV_bl]; exact k⟩
def gIs : R2 := fun x y H Q => y = .non ∧ Q (.bl (decide (x = .non))) H
def gNot : R2 := fun x y H Q => y = .non ∧ Q (.bl (!decide (x = .non))) H
theorem op_gIs {X : Cx} : OpR X (compareOp .Is) gIs := op_isN
theorem op_gNot {X : Cx} : OpR X (compareOp .IsNot) gNot := op_notN
theorem w_isN0 (k : Q (.bl true) H) : gIs .non .non H Q := ⟨rfl, by simpa using k⟩
theorem w_notN0 (k : Q (.bl false) H) : gNot .non .non H Q := ⟨rfl, by simpa using k⟩
theorem w_isNx (h : x ≠ .non) (k : Q (.bl false) H) : gIs x .non H Q := ⟨rfl, by rw [decide_eq_false h]; exact k⟩
theorem w_notNx (h : x ≠ .non) (k : Q (.bl true) H) : gNot x .non H Q := ⟨rfl, by rw [decide_eq_false h]; exact k⟩
theorem w_isBT (k : Q (.bl b) H) : rIsB (.bl b) (.bl true) H Q := ⟨b, true, rfl, rfl, by cases b <;> exact k⟩
theorem w_notBT (k : Q (.bl (!b)) H) : rNotB (.bl b) (.bl true) H Q := ⟨b, true, rfl, rfl, by cases b <;> exact k⟩
theorem w_sum {p : Addr} {ns : List Int} (h : SqL K H p (ns.map V.int)) (k : Q (.int ns.sum) H) : rSum K [.ref p] H Q := ⟨p, ns, rfl, h, k⟩
theorem w_all {p : Addr} {bs : List Bool} (h : SqL K H p (bs.map V.bl)) (k : Q (.bl (bs.all id)) H) : rAll K [.ref p] H Q := ⟨p, bs, rfl, h, k⟩
theorem w_shl1F (h0 : 0 ≤ j) (h : j ≤ 1000000) (k : ∀ z : Int, z = 2 ^ j.toNat → 1 ≤ z → (1 ≤ j → 2 ≤ z) → (j ≤ 9 → z ≤ 512) → (j ≤ 40 → z ≤ 1099511627776) → Q (.int z) H) : gShl (.int 1) (.int j) H Q := by
  obtain ⟨q1, q2, q3⟩ := pow_bd (j := j) (m := 1000000) (by omega)
  rw [Int.one_mul] at q1 q3
  refine w_shlI (shl1_ok h0 h) ?_
  rw [Int.one_mul]
  exact k _ rfl q1 q3 (fun h => by have := (pow_bd (j := j) (m := 9) (by omega)).2.1; rw [Int.one_mul] at this; omega) (fun h => by have := (pow_bd (j := j) (m := 40) (by omega)).2.1; rw [Int.one_mul] at this; omega)
theorem w_andF (h0 : 0 ≤ i) (h1 : 0 ≤ j) (k : ∀ z : Int, z = Builtin.bitAnd i j → 0 ≤ z → z ≤ i → z ≤ j → Q (.int z) H) : gAnd (.int i) (.int j) H Q := by
  obtain ⟨q1, q2, q3⟩ := and_bd h0 h1
  exact ⟨i, j, rfl, rfl, k _ rfl q1 q2 q3⟩
def BitsE (Q : VK) (x : V) (H : Hp) : Prop := ∃ i, x = .int i ∧ Q (.int (Builtin.Int.intBits i : Nat)) H
theorem w_bits {to : TE} (k : to σ H fun x H1 => BitsE Q x H1) : tBits to σ H Q := k
theorem bits_lt (i : Int) : i.natAbs < 2 ^ Builtin.Int.intBits i := by
  unfold Builtin.Int.intBits
  split
  · rename_i h
    have : i = 0 := by simpa using h
    subst this; decide
  · exact Nat.lt_log2_self
theorem w_bitsE (k : ∀ m : Nat, m = Builtin.Int.intBits i → i.natAbs < 2 ^ m → Q (.int m) H) : BitsE Q (.int i) H := ⟨i, rfl, k _ rfl (bits_lt i)⟩
theorem w_shrI (c : 0 ≤ j) (k : Q (.int (i / 2 ^ j.toNat)) H) : gShr (.int i) (.int j) H Q := ⟨i, j, rfl, rfl, c, k⟩
theorem w_andI (k : Q (.int (Builtin.bitAnd i j)) H) : gAnd (.int i) (.int j) H Q := ⟨i, j, rfl, rfl, k⟩
theorem w_ltI (k : Q (.bl (decide (i < j))) H) : gLt (.int i) (.int j) H Q := ⟨i, j, rfl, rfl, k⟩
theorem w_leI (k : Q (.bl (decide (i ≤ j))) H) : gLe (.int i) (.int j) H Q := ⟨i, j, rfl, rfl, k⟩
theorem w_gtI (k : Q (.bl (decide (j < i))) H) : gGt (.int i) (.int j) H Q := ⟨i, j, rfl, rfl, k⟩
theorem w_geI (k : Q (.bl (decide (j ≤ i))) H) : gGe (.int i) (.int j) H Q := ⟨i, j, rfl, rfl, k⟩
theorem dV_int : decide (V.int i = V.int j) = decide (i = j) := by
  by_cases h : i = j
  · subst h; simp
  · rw [decide_eq_false h, decide_eq_false (fun e => h (V.int.inj e))]
theorem dV_str {s t : Str} : decide (V.str s = V.str t) = decide (s = t) := by
  by_cases h : s = t
  · subst h; simp
  · rw [decide_eq_false h, decide_eq_false (fun e => h (V.str.inj e))]
theorem w_eqI (k : Q (.bl (decide (i = j))) H) : gEq K (.int i) (.int j) H Q := .inl ⟨rfl, by rw [dV_int]; exact k⟩
theorem w_neI (k : Q (.bl (!decide (i = j))) H) : gNe K (.int i) (.int j) H Q := .inl ⟨rfl, by rw [dV_int]; exact k⟩
theorem w_eqS {s t : Str} (k : Q (.bl (decide (s = t))) H) : gEq K (.str s) (.str t) H Q := .inl ⟨rfl, by rw [dV_str]; exact k⟩
theorem w_neS {s t : Str} (k : Q (.bl (!decide (s = t))) H) : gNe K (.str s) (.str t) H Q := .inl ⟨rfl, by rw [dV_str]; exact k⟩
theorem w_lenL {p : Addr} {xs : List V} (h : SqL K H p xs) (k : Q (.int (xs.length : Int)) H) : gLen K [.ref p] H Q := .inl ⟨p, xs, rfl, .inl h, k⟩
theorem w_lenT {p : Addr} {xs : List V} (h : SqT K H p xs) (k : Q (.int (xs.length : Int)) H) : gLen K [.ref p] H Q := .inl ⟨p, xs, rfl, .inr h, k⟩
theorem w_lenS {s : Str} (z : s.length ≤ sizeLine) (k : Q (.int (s.length : Int)) H) : gLen K [.str s] H Q := .inr ⟨s, rfl, z, k⟩
theorem w_intB (k1 : b = true → Q (.int 1) H) (k0 : b = false → Q (.int 0) H) : gIntC [.bl b] H Q := .inr ⟨b, rfl, by cases b; exact k0 rfl; exact k1 rfl⟩
theorem w_intD {c : Prop} [Decidable c] (k1 : c → Q (.int 1) H) (k0 : ¬ c → Q (.int 0) H) : gIntC [.bl (decide c)] H Q := w_intB (fun e => k1 (of_decide_eq_true e)) (fun e => k0 (of_decide_eq_false e))
theorem w_intDn {c : Prop} [Decidable c] (k1 : ¬ c → Q (.int 1) H) (k0 : c → Q (.int 0) H) : gIntC [.bl (!decide c)] H Q := w_intB (fun e => k1 (fun z => by rw [decide_eq_true z] at e; cases e)) (fun e => k0 (Decidable.byContradiction fun z => by rw [decide_eq_false z] at e; cases e))
theorem w_intI (k : Q (.int i) H) : gIntC [.int i] H Q := .inl ⟨i, rfl, k⟩
theorem w_max (k : Q (.int (max i j)) H) : gMax [.int i, .int j] H Q := ⟨i, j, rfl, by
  have e : (if j > i then j else i) = max i j := by split <;> omega
  rw [e]; exact k⟩
theorem w_min (k : Q (.int (min i j)) H) : gMin [.int i, .int j] H Q := ⟨i, j, rfl, by
  have e : (if j < i then j else i) = min i j := by split <;> omega
  rw [e]; exact k⟩
theorem w_ixL {p : Addr} {xs : List V} (h : SqL K H p xs) (a : atI xs i = some v) (k : Q v H) : rIx K (.ref p) (.int i) H Q := .inl ⟨p, xs, i, v, rfl, rfl, h, a, k⟩
theorem w_ixT {p : Addr} {xs : List V} (h : SqT K H p xs) (a : atI xs i = some v) (k : Q v H) : rIx K (.ref p) (.int i) H Q := .inr (.inl ⟨p, xs, i, v, rfl, rfl, h, a, k⟩)
/-! tests -/
theorem w_test (k : te σ H fun x H' => IsBl x fun k => QT k H') : tTest te σ H QT := k
theorem w_isbl {R : Bool → Prop} (k : R b) : IsBl (.bl b) R := ⟨b, rfl, k⟩
theorem w_B (k : te σ H fun x H' => IsBl x fun k => QT k H') : tB te σ H QT := k
theorem w_and (k : tt σ H fun c H1 => if c = true then tu σ H1 QT else QT false H1) : tAnd tt tu σ H QT := k
theorem w_or (k : tt σ H fun c H1 => if c = true then QT true H1 else tu σ H1 QT) : tOr tt tu σ H QT := k
theorem w_not (k : tt σ H fun c H1 => QT (!c) H1) : tNot tt σ H QT := k
theorem w_ife (k : tt σ H fun c H1 => if c = true then ta σ H1 Q else tb σ H1 Q) : tIf tt ta tb σ H Q := k
theorem w_andV (k : ta σ H fun x H1 => IsBl x fun c => if c = true then tb σ H1 Q else Q (.bl false) H1) : tAndV ta tb σ H Q := k
theorem w_orV (k : ta σ H fun x H1 => IsBl x fun c => if c = true then Q (.bl true) H1 else tb σ H1 Q) : tOrV ta tb σ H Q := k
theorem w_notV (k : ta σ H fun x H1 => IsBl x fun c => Q (.bl (!c)) H1) : tNotV ta σ H Q := k
theorem w_if {c A B : Prop} [Decidable c] (h1 : c → A) (h2 : ¬ c → B) : if decide c = true then A else B := by
  by_cases h : c
  · rw [decide_eq_true h]; exact h1 h
  · rw [decide_eq_false h]; exact h2 h
theorem w_ifn {c A B : Prop} [Decidable c] (h1 : ¬ c → A) (h2 : c → B) : if (!decide c) = true then A else B := by
  by_cases h : c
  · rw [decide_eq_true h]; exact h2 h
  · rw [decide_eq_false h]; exact h1 h
theorem w_ifnn {c A B : Prop} [Decidable c] (h1 : c → A) (h2 : ¬ c → B) : if (!!decide c) = true then A else B := by
  by_cases h : c
  · rw [decide_eq_true h]; exact h1 h
  · rw [decide_eq_false h]; exact h2 h
theorem w_ifY {c A B : Prop} [Decidable c] (h : c) (k : A) : if decide c = true then A else B := by rw [decide_eq_true h]; exact k
theorem w_ifZ {c A B : Prop} [Decidable c] (h : ¬ c) (k : B) : if decide c = true then A else B := by rw [decide_eq_false h]; exact k
theorem w_ifnY {c A B : Prop} [Decidable c] (h : c) (k : B) : if (!decide c) = true then A else B := by rw [decide_eq_true h]; exact k
theorem w_ifnZ {c A B : Prop} [Decidable c] (h : ¬ c) (k : A) : if (!decide c) = true then A else B := by rw [decide_eq_false h]; exact k
theorem w_intY {c : Prop} [Decidable c] (h : c) (k : Q (.int 1) H) : gIntC [.bl (decide c)] H Q := by rw [decide_eq_true h]; exact .inr ⟨true, rfl, k⟩
theorem w_intZ {c : Prop} [Decidable c] (h : ¬ c) (k : Q (.int 0) H) : gIntC [.bl (decide c)] H Q := by rw [decide_eq_false h]; exact .inr ⟨false, rfl, k⟩
theorem w_ifT {A B : Prop} (h : A) : if true = true then A else B := h
theorem w_ifF {A B : Prop} (h : B) : if false = true then A else B := h
theorem w_ifNT {A B : Prop} (h : B) : if (!true) = true then A else B := h
theorem w_ifNF {A B : Prop} (h : A) : if (!false) = true then A else B := h
/-! statements -/
theorem w_seq {n c d : L2.St → Hp → Prop} {r : VK} (k : t1 (En (t2 (En n r c d)) r c d) σ H) : tSeq t1 t2 (En n r c d) σ H := k
theorem w_asg {n : Nat} (k : te σ H fun x H1 => NX D (σ.set n (some x)) H1) : tAsg te (gName n) D σ H := k
theorem w_asgG {g : TG} (k : te σ H fun x H1 => g x σ H1 (NX D)) : tAsg te g D σ H := k
def Par (n m : Nat) (D : Ends) (σ : L2.St) (vs : List V) (H : Hp) : Prop := ∃ v w, vs = [v, w] ∧ D.nx ((σ.set n (some v)).set m (some w)) H
theorem w_par {n m : Nat} {t : TA} (k : t σ H fun vs H1 => Par n m D σ vs H1) : tPar n m t D σ H := k
theorem w_parE {n m : Nat} (k : NX D ((σ.set n (some x)).set m (some y)) H) : Par n m D σ [x, y] H := ⟨x, y, rfl, k⟩
def Par3 (n m l : Nat) (D : Ends) (σ : L2.St) (vs : List V) (H : Hp) : Prop := ∃ u v w, vs = [u, v, w] ∧ D.nx (((σ.set n (some u)).set m (some v)).set l (some w)) H
theorem w_par3 {n m l : Nat} {t : TA} (k : t σ H fun vs H1 => Par3 n m l D σ vs H1) : tPar3 n m l t D σ H := k
theorem w_par3E {n m l : Nat} {z : V} (k : NX D (((σ.set n (some x)).set m (some y)).set l (some z)) H) : Par3 n m l D σ [x, y, z] H := ⟨x, y, z, rfl, k⟩
theorem w_aug {n : Nat} {ti : TIp} (h : σ[n]? = some (some x)) (k : te σ H fun y H1 => ti x y H1 fun z H2 => NX D (σ.set n (some z)) H2) : tAug n te ti D σ H := ⟨x, h, k⟩
theorem w_ret (k : te σ H fun v H1 => RT D v H1) : tRet te D σ H := k
theorem w_drop (k : te σ H fun _ H1 => NX D σ H1) : tDrop te D σ H := k
theorem w_ifs (k : tt σ H fun b H1 => if b = true then t1 D σ H1 else t2 D σ H1) : tIfS tt t1 t2 D σ H := k
theorem w_next (k : NX D σ H) : tNext D σ H := k
theorem w_nx {n c d : L2.St → Hp → Prop} {r : VK} (k : n σ H) : NX (En n r c d) σ H := k
theorem w_rt {n c d : L2.St → Hp → Prop} {r : VK} (k : r v H) : RT (En n r c d) v H := k
theorem w_start {n : L2.St → Hp → Prop} {r : VK} {t : TS} (k : t (En n r (fun _ _ => False) (fun _ _ => False)) σ H) : t { nx := n, rt := r } σ H := k
theorem w_gname {n : Nat} {R : L2.St → Hp → Prop} (k : R (σ.set n (some v)) H) : gName n v σ H R := k
theorem w_gnil {R : L2.St → Hp → Prop} (k : R σ H) : gNil [] σ H R := ⟨rfl, k⟩
theorem w_gcons {g : TG} {u : TGs} {r : List V} {R : L2.St → Hp → Prop} (k : g v σ H fun σ' H' => u r σ' H' R) : gCons g u (v :: r) σ H R := ⟨v, r, rfl, k⟩
theorem w_gtup {a : Addr} {xs : List V} {n : Nat} {u : TGs} {R : L2.St → Hp → Prop} (h : SqT K H a xs) (l : xs.length = n) (k : u xs σ H R) : gTup2 K n u (.ref a) σ H R := ⟨a, xs, rfl, h, l, k⟩
theorem w_gsub {to ti : TE} {t : TSet} {R : L2.St → Hp → Prop} (k : to σ H fun o H1 => ti σ H1 fun i H2 => t o i v H2 fun H3 => R σ H3) : gSub to ti t v σ H R := k
theorem w_setL {l : Addr} {xs : List V} {n : Nat} {R : Hp → Prop} (h : H l = some (.lst xs)) (e : ixN xs.length i = some n) (k : ∀ H', Kp l H H' → H' l = some (.lst (xs.set n v)) → R H') : rSetL (.ref l) (.int i) v H R :=
  ⟨l, xs, i, n, rfl, rfl, h, e, k _ kp_upd upd_same⟩
theorem w_bm {T : String} {r : V → List V → Hp → VK → Prop} {to : TE} {t : TA} (k : to σ H fun x H1 => BmE K T x H1 (t σ H1 fun xs H2 => r x xs H2 Q)) : tBM K T r to t σ H Q := k
theorem w_bmL {l : Addr} {xs : List V} {R : Prop} (h : H l = some (.lst xs)) (k : R) : BmE K "list" (.ref l) H R := ⟨.inl ⟨rfl, xs, Or.inl (Or.inl h)⟩, k⟩
theorem w_app {l : Addr} {xs : List V} (h : H l = some (.lst xs)) (z : xs.length < sizeLine) (k : ∀ H', Kp l H H' → H' l = some (.lst (xs ++ [v])) → Q .non H') : rAppend (.ref l) [v] H Q :=
  ⟨l, xs, v, rfl, rfl, h, z, k _ kp_upd upd_same⟩
theorem ty_list {l : Addr} {xs : List V} (h : H l = some (.lst xs)) : tyV K "list" (.ref l) H := .inl ⟨rfl, xs, sq_of h⟩
theorem w_slL {a : Addr} {xs : List V} {lo hi : Option Int} (h : SqL K H a xs) (k : ∀ p H', H p = none → Sm H H' → H' p = some (.lst (cutV xs lo hi)) → Q (.ref p) H') : gSl K (.ref a) lo hi H Q := .inl ⟨a, xs, rfl, h, fun p hp => k p _ hp (sm_new hp) upd_same⟩
theorem cut_whole {xs : List V} {lo hi : Option Int} (h : HT.sIx xs.length 0 lo = 0 ∧ HT.sIx xs.length xs.length hi = xs.length) : cutV xs lo hi = xs := by
  unfold cutV
  rw [h.1, h.2, List.drop_zero, Nat.sub_zero, List.take_length]
theorem w_slT {a : Addr} {xs : List V} {lo hi : Option Int} (h : H a = some (.tup xs)) (k : ∀ p H', Sm H H' → H' p = some (.tup (cutV xs lo hi)) → Q (.ref p) H') : gSl K (.ref a) lo hi H Q :=
  .inr ⟨a, xs, rfl, st_of h, fun w => k a H (Same.refl _) (by rw [cut_whole w]; exact h), fun _ p hp => k p _ (sm_new hp) upd_same⟩
theorem w_catT {a b : Addr} {xs ys : List V} (h1 : H a = some (.tup xs)) (h2 : H b = some (.tup ys)) (z : xs.length + ys.length ≤ sizeLine) (k : ∀ p H', Sm H H' → H' p = some (.tup (xs ++ ys)) → Q (.ref p) H') : gAdd K (.ref a) (.ref b) H Q :=
  .inr (.inr (.inr ⟨a, b, xs, ys, rfl, rfl, st_of h1, st_of h2, z, fun e => k b H (Same.refl _) (by rw [e]; exact h2), fun _ e => k a H (Same.refl _) (by rw [e, List.append_nil]; exact h1), fun _ _ p hp => k p _ (sm_new hp) upd_same⟩))
theorem w_sl {r : V → Option Int → Option Int → Hp → VK → Prop} {tl th : TO} (k : te σ H fun x H1 => tl σ H1 fun l H2 => th σ H2 fun u H3 => r x l u H3 Q) : tSl r te tl th σ H Q := k
theorem w_po0 {R : Option Int → Hp → Prop} (k : R none H) : tNoPart σ H R := k
theorem w_po1 {R : Option Int → Hp → Prop} (k : te σ H fun x H1 => PartE R x H1) : tPart te σ H R := k
theorem w_poE {R : Option Int → Hp → Prop} (k : R (some i) H) : PartE R (.int i) H := ⟨i, rfl, k⟩
theorem w_clear {l : Addr} {xs : List V} (h : H l = some (.lst xs)) (k : ∀ H', Kp l H H' → H' l = some (.lst []) → Q .non H') : tyV K "list" (.ref l) H ∧ rClear (.ref l) [] H Q :=
  ⟨ty_list h, l, xs, rfl, rfl, h, k _ kp_upd upd_same⟩
end
/-! a field read inside a comprehension: the context's K is named -/
end Rs
namespace Rs
open PySem L2 PyProof.Rows PySem.NumText
/-! ### the walk's own words -/
local macro_rules | `(tactic| tm_at "rlk") => `(tactic| first | with_reducible assumption | ((refine' g_lk ?sg ?sh); (case sg => with_reducible assumption); (case sh => tm_at "rlk0")) | fail "no")
local macro_rules | `(tactic| tm_at "rlk0") => `(tactic| first | with_reducible assumption | (refine' Same.get ?sa ?sb; (case sa => with_reducible assumption); (case sb => tm_at "rlk0")) | (refine' Kp.get ?sa ?sc ?sb; (case sa => with_reducible assumption); (case sc => tm_at "rne"); (case sb => tm_at "rlk0")) | fail "no")
local macro_rules | `(tactic| tm_at "rne") => `(tactic| first | with_reducible assumption | (apply Ne.symm; assumption) | (refine' ne_new ?sa ?sb; (case sa => with_reducible assumption); (case sb => tm_at "rlk")) | (refine' ne_new2 ?sa ?sb; (case sa => with_reducible assumption); (case sb => tm_at "rlk")) | fail "no")
local macro_rules | `(tactic| tm_at "rsf") => `(tactic| first | with_reducible assumption | ((refine' g_sqf ?sg ?sh); (case sg => with_reducible assumption); (case sh => tm_at "rsf0")) | fail "no")
local macro_rules | `(tactic| tm_at "rsf0") => `(tactic| first | with_reducible assumption | ((refine' SqF.sm ?sa ?sb); (case sb => with_reducible assumption); (case sa => tm_at "rsf0")) | ((refine' SqF.kp ?sa ?sc ?sb); (case sb => with_reducible assumption); (case sc => tm_at "rlk"); (case sa => tm_at "rsf0")) | fail "no")
local macro_rules | `(tactic| tm_at "rsq") => `(tactic| first | with_reducible assumption | ((refine' SqF.sq ?sz); (case sz => tm_at "rsf")) | ((refine' sq_of ?sz); (case sz => tm_at "rlk")) | (refine' sm_sq ?sa ?sb; (case sa => with_reducible assumption); (case sb => tm_at "rsq")) | (refine' kp_sq ?sa ?sc ?sb; (case sa => with_reducible assumption); (case sc => tm_at "rne"); (case sb => tm_at "rsq")) | fail "no")
local macro_rules | `(tactic| tm_at "rst") => `(tactic| first | with_reducible assumption | ((refine' st_of ?sz); (case sz => tm_at "rlk")) | fail "no")
local macro_rules | `(tactic| tm_at "rat") => `(tactic| first | with_reducible assumption | exact atI_nat (j := 0) rfl | exact atI_nat (j := 1) rfl | exact atI_nat (j := 2) rfl | exact atI_nat (j := 3) rfl | exact atI_nat (j := 4) rfl | exact atI_nat (j := 5) rfl | fail "no")
local macro_rules | `(tactic| tm_at "rsz") => `(tactic| first | with_reducible assumption | exact sz_of (Nat.le_of_ble_eq_true rfl) | (apply sz_of; omega) | ((refine sz_of (Nat.le_trans (Nat.add_le_add_left (cutV_length _ _ _) _) ?_)); omega) | ((refine sz_of (Nat.le_trans (Nat.add_le_add_left (cutV_length _ _ _) _) ?_)); (simp only [List.length_cons, List.length_nil, List.length_append]); omega) | (apply sz_lt; omega) | ((apply sz_of); (simp only [List.length_cons, List.length_nil, List.length_append]); omega) | ((apply sz_lt); (simp only [List.length_cons, List.length_nil, List.length_append]); omega) | ((apply sz_of); (simp only [List.length_cons, List.length_nil, List.length_append, List.length_take, List.length_drop, List.length_map, List.length_replicate, List.length_set]); omega) | ((apply sz_lt); (simp only [List.length_cons, List.length_nil, List.length_append, List.length_take, List.length_drop, List.length_map, List.length_replicate, List.length_set]); omega) | decide | fail "no")
local macro_rules | `(tactic| tm_at "rc") => `(tactic| first | with_reducible assumption | exact .inl (.inl (by decide)) | exact .inl (.inr (by decide)) | exact .inl (.inl ⟨by omega, by omega⟩) | exact .inl (.inr ⟨by omega, by omega⟩) | fail "no")
local macro_rules | `(tactic| tm_at "rfr") => `(tactic| first | with_reducible assumption | ((refine' g_fr ?sg ?sh); (case sg => with_reducible assumption); (case sh => tm_at "rfr0")) | fail "no")
local macro_rules | `(tactic| tm_at "rfr0") => `(tactic| first | with_reducible assumption | ((refine' Same.free ?sa ?sb); (case sa => with_reducible assumption); (case sb => tm_at "rfr0")) | ((refine' kp_free ?sa ?sc ?sb); (case sa => with_reducible assumption); (case sb => tm_at "rfr0"); (case sc => tm_at "rne")) | fail "no")
local macro_rules | `(tactic| tm_at "rsm") => `(tactic| first | with_reducible assumption | exact Same.refl _ | ((refine' Same.trans ?sa ?sb); (case sb => with_reducible assumption); (case sa => tm_at "rsm")) | ((refine' sm_mut ?sa ?sc ?sb); (case sb => with_reducible assumption); (case sc => tm_at "rfr"); (case sa => tm_at "rsm")) | fail "no")
local macro_rules | `(tactic| tm_at "rkp") => `(tactic| first | with_reducible assumption | exact Kp.refl _ | ((refine' Kp.trans ?sa ?sb); (case sb => first | with_reducible assumption | exact Kp.of (by with_reducible assumption)); (case sa => tm_at "rkp")) | ((refine' kp_mut ?sa ?sc ?sb); (case sb => with_reducible assumption); (case sc => tm_at "rfr"); (case sa => tm_at "rkp")) | fail "no")
local macro_rules | `(tactic| tm_at "rs") => `(tactic| first | ((with_reducible refine w_iR2e ?h ?_); (case h => (refine ⟨?_, ?_, ?_, ?_⟩ <;> omega))) | fail "no")
local macro_rules | `(tactic| tm_at "rs") => `(tactic| first | ((with_reducible refine w_iR1e ?h ?i ?_); (case h => omega); (case i => omega)) | fail "no")
local macro_rules | `(tactic| tm_at "rs") => `(tactic| first | ((with_reducible refine' w_iTe ?h ?k); (case h => tm_at "rst")) | fail "no")
local macro_rules | `(tactic| tm_at "rs") => `(tactic| first | ((with_reducible refine' w_iLe ?h ?k); (case h => tm_at "rsq")) | fail "no")
local macro_rules | `(tactic| tm_at "rs") => `(tactic| first | ((with_reducible refine' w_clear ?h (fun _ _ _ => ?k)); (case h => tm_at "rlk")) | fail "no")
local macro_rules | `(tactic| tm_at "rs") => `(tactic| first | ((with_reducible refine' w_isiTup ?h ?k); (case h => tm_at "rlk")) | fail "no")
local macro_rules | `(tactic| tm_at "rs") => `(tactic| first | ((with_reducible refine' w_niS2 ?h ?k); (case h => tm_at "rst")) | fail "no")
local macro_rules | `(tactic| tm_at "rs") => `(tactic| first | ((with_reducible refine' w_inS2 ?h ?k); (case h => tm_at "rst")) | fail "no")
local macro_rules | `(tactic| tm_at "rs") => `(tactic| first | ((with_reducible refine' w_catT ?h ?i ?z (fun _ _ _ _ => ?k)); (case h => tm_at "rlk"); (case i => tm_at "rlk"); (case z => tm_at "rsz")) | fail "no")
local macro_rules | `(tactic| tm_at "rs") => `(tactic| first | ((with_reducible refine' w_addL ?h ?i ?z (fun _ _ _ _ _ => ?k)); (case h => tm_at "rlk"); (case i => tm_at "rlk"); (case z => tm_at "rsz")) | fail "no")
local macro_rules | `(tactic| tm_at "rs") => `(tactic| first | ((with_reducible refine' w_slT ?h (fun _ _ _ _ => ?k)); (case h => tm_at "rlk")) | fail "no")
local macro_rules | `(tactic| tm_at "rs") => `(tactic| first | ((with_reducible refine' w_slL ?h (fun _ _ _ _ _ => ?k)); (case h => tm_at "rsq")) | fail "no")
local macro_rules | `(tactic| tm_at "rs") => `(tactic| first | ((with_reducible refine' w_app ?h ?z (fun _ _ _ => ?k)); (case h => tm_at "rlk"); (case z => tm_at "rsz")) | fail "no")
local macro_rules | `(tactic| tm_at "rs") => `(tactic| first | ((with_reducible refine' w_bmL ?h ?k); (case h => tm_at "rlk")) | fail "no")
local macro_rules | `(tactic| tm_at "rs") => `(tactic| first | ((with_reducible refine' w_setL ?h ?e (fun _ _ _ => ?k)); (case h => tm_at "rlk"); (case e => rfl)) | fail "no")
local macro_rules | `(tactic| tm_at "rs") => `(tactic| first | with_reducible refine w_ifnn (fun _ => ?_) (fun _ => ?_) | fail "no")
local macro_rules | `(tactic| tm_at "rs") => `(tactic| first | with_reducible refine w_ifn (fun _ => ?_) (fun _ => ?_) | fail "no")
local macro_rules | `(tactic| tm_at "rs") => `(tactic| first | with_reducible refine w_if (fun _ => ?_) (fun _ => ?_) | fail "no")
local macro_rules | `(tactic| tm_at "rs") => `(tactic| first | ((with_reducible refine w_ifnZ ?h ?_); (case h => decide +kernel)) | fail "no")
local macro_rules | `(tactic| tm_at "rs") => `(tactic| first | ((with_reducible refine w_ifnY ?h ?_); (case h => decide +kernel)) | fail "no")
local macro_rules | `(tactic| tm_at "rs") => `(tactic| first | ((with_reducible refine w_ifZ ?h ?_); (case h => decide +kernel)) | fail "no")
local macro_rules | `(tactic| tm_at "rs") => `(tactic| first | ((with_reducible refine w_ifY ?h ?_); (case h => decide +kernel)) | fail "no")
local macro_rules | `(tactic| tm_at "rs") => `(tactic| first | ((with_reducible refine' w_lcEnd ?h ?z (fun _ _ _ => ?k)); (case h => tm_at "rlk"); (case z => tm_at "rsz")) | fail "no")
local macro_rules | `(tactic| tm_at "rs") => `(tactic| first | ((with_reducible refine w_lcGo ?h ?_); (case h => rfl)) | fail "no")
local macro_rules | `(tactic| tm_at "rs") => `(tactic| first | with_reducible refine w_yes ?_ | fail "no")
local macro_rules | `(tactic| tm_at "rs") => `(tactic| first | with_reducible refine w_lc ?_ | fail "no")
local macro_rules | `(tactic| tm_at "rs") => `(tactic| first | ((with_reducible refine' w_all ?h ?k); (case h => tm_at "rsq")) | fail "no")
local macro_rules | `(tactic| tm_at "rs") => `(tactic| first | ((with_reducible refine' w_sum ?h ?k); (case h => tm_at "rsq")) | fail "no")
local macro_rules | `(tactic| tm_at "rs") => `(tactic| first | ((with_reducible refine' w_ix8I ?h ?a ?b (fun _ _ => ?k)); (case h => tm_at "rsq"); (case a => omega); (case b => omega)) | fail "no")
local macro_rules | `(tactic| tm_at "rs") => `(tactic| first | ((with_reducible refine' w_ix7I ?h ?a ?b (fun _ _ => ?k)); (case h => tm_at "rsq"); (case a => omega); (case b => omega)) | fail "no")
local macro_rules | `(tactic| tm_at "rs") => `(tactic| first | ((with_reducible refine' w_ix6I ?h ?a ?b (fun _ _ => ?k)); (case h => tm_at "rsq"); (case a => omega); (case b => omega)) | fail "no")
local macro_rules | `(tactic| tm_at "rs") => `(tactic| first | ((with_reducible refine' w_ix5I ?h ?a ?b (fun _ _ => ?k)); (case h => tm_at "rsq"); (case a => omega); (case b => omega)) | fail "no")
local macro_rules | `(tactic| tm_at "rs") => `(tactic| first | ((with_reducible refine' w_ix4I ?h ?a ?b (fun _ _ => ?k)); (case h => tm_at "rsq"); (case a => omega); (case b => omega)) | fail "no")
local macro_rules | `(tactic| tm_at "rs") => `(tactic| first | ((with_reducible refine' w_ix3I ?h ?a ?b (fun _ _ => ?k)); (case h => tm_at "rsq"); (case a => omega); (case b => omega)) | fail "no")
local macro_rules | `(tactic| tm_at "rs") => `(tactic| first | ((with_reducible refine' w_ix2I ?h ?a ?b (fun _ _ => ?k)); (case h => tm_at "rsq"); (case a => omega); (case b => omega)) | fail "no")
local macro_rules | `(tactic| tm_at "rs") => `(tactic| first | ((with_reducible refine w_newT ?h (fun _ _ _ _ _ => ?_)); (case h => exact sz_of (Nat.le_of_ble_eq_true rfl))) | fail "no")
local macro_rules | `(tactic| tm_at "rs") => `(tactic| first | ((with_reducible refine w_newL ?h (fun _ _ _ _ _ => ?_)); (case h => exact sz_of (Nat.le_of_ble_eq_true rfl))) | fail "no")
local macro_rules | `(tactic| tm_at "rs") => `(tactic| first | ((with_reducible refine' w_ixT ?h ?a ?k); (case h => tm_at "rst"); (case a => tm_at "rat")) | fail "no")
local macro_rules | `(tactic| tm_at "rs") => `(tactic| first | ((with_reducible refine' w_ixL ?h ?a ?k); (case h => tm_at "rsq"); (case a => tm_at "rat")) | fail "no")
local macro_rules | `(tactic| tm_at "rs") => `(tactic| first | ((with_reducible refine' w_lenT ?h ?k); (case h => tm_at "rst")) | fail "no")
local macro_rules | `(tactic| tm_at "rs") => `(tactic| first | ((with_reducible refine' w_lenL ?h ?k); (case h => tm_at "rsq")) | fail "no")
local macro_rules | `(tactic| tm_at "rs") => `(tactic| first | with_reducible refine w_intB (fun _ => ?_) (fun _ => ?_) | fail "no")
local macro_rules | `(tactic| tm_at "rs") => `(tactic| first | with_reducible refine w_intDn (fun _ => ?_) (fun _ => ?_) | fail "no")
local macro_rules | `(tactic| tm_at "rs") => `(tactic| first | with_reducible refine w_intD (fun _ => ?_) (fun _ => ?_) | fail "no")
local macro_rules | `(tactic| tm_at "rs") => `(tactic| first | ((with_reducible refine w_intZ ?h ?_); (case h => decide +kernel)) | fail "no")
local macro_rules | `(tactic| tm_at "rs") => `(tactic| first | ((with_reducible refine w_intY ?h ?_); (case h => decide +kernel)) | fail "no")
local macro_rules | `(tactic| tm_at "rs") => `(tactic| first | ((with_reducible refine w_shrI ?h ?_); (case h => (first | decide | omega))) | fail "no")
local macro_rules | `(tactic| tm_at "rs") => `(tactic| first | ((with_reducible refine w_powI ?h ?_); (case h => exact ⟨by decide, by decide, by decide +kernel⟩)) | fail "no")
local macro_rules | `(tactic| tm_at "rs") => `(tactic| first | ((with_reducible refine w_mulI ?h ?_); (case h => tm_at "rc")) | fail "no")
local macro_rules | `(tactic| tm_at "rs") => `(tactic| first | ((with_reducible refine w_divI ?h ?_); (case h => (first | assumption | exact ⟨by decide, by decide +kernel⟩ | exact ⟨by assumption, by assumption⟩))) | fail "no")
local macro_rules | `(tactic| tm_at "rs") => `(tactic| first | ((with_reducible refine w_modF ?h (fun _ _ _ _ _ => ?_)); (case h => omega)) | fail "no")
local macro_rules | `(tactic| tm_at "rs") => `(tactic| first | ((with_reducible refine w_modI ?h ?_); (case h => decide)) | fail "no")
local macro_rules | `(tactic| tm_at "rs") => `(tactic| first | ((with_reducible refine w_shlI ?h ?_); (case h => first | assumption | exact ⟨by decide, by decide⟩)) | fail "no")
local macro_rules | `(tactic| tm_at "rs") => `(tactic| first | with_reducible refine w_bitsE (fun _ _ _ => ?_) | fail "no")
local macro_rules | `(tactic| tm_at "rs") => `(tactic| first | with_reducible refine w_bits ?_ | fail "no")
local macro_rules | `(tactic| tm_at "rs") => `(tactic| first | ((with_reducible refine w_shl1F ?h ?i (fun _ _ _ _ _ _ => ?_)); (case h => omega); (case i => omega)) | fail "no")
local macro_rules | `(tactic| tm_at "rs") => `(tactic| first | ((with_reducible refine w_imulI ?h ?_); (case h => tm_at "rc")) | fail "no")
local macro_rules | `(tactic| tm_at "rs") => `(tactic| first | ((with_reducible refine' w_gtup ?h ?l ?k); (case h => tm_at "rst"); (case l => rfl)) | fail "no")
local macro_rules | `(tactic| tm_at "rs") => `(tactic| first | with_reducible refine w_gcons ?_ | fail "no")
local macro_rules | `(tactic| tm_at "rs") => `(tactic| first | with_reducible refine w_gnil ?_ | fail "no")
local macro_rules | `(tactic| tm_at "rs") => `(tactic| first | with_reducible refine w_gname ?_ | fail "no")
local macro_rules | `(tactic| tm_at "rs") => `(tactic| first | with_reducible refine w_isiSs ?_ | fail "no")
local macro_rules | `(tactic| tm_at "rs") => `(tactic| first | with_reducible refine w_isiBb ?_ | fail "no")
local macro_rules | `(tactic| tm_at "rs") => `(tactic| first | with_reducible refine w_isiIi ?_ | fail "no")
local macro_rules | `(tactic| tm_at "rs") => `(tactic| first | with_reducible refine w_isiIb ?_ | fail "no")
local macro_rules | `(tactic| tm_at "rs") => `(tactic| first | with_reducible refine w_xorI ?_ | fail "no")
local macro_rules | `(tactic| tm_at "rs") => `(tactic| first | with_reducible refine w_iaddI ?_ | fail "no")
local macro_rules | `(tactic| tm_at "rs") => `(tactic| first | with_reducible refine w_shr1 ?_ | fail "no")
local macro_rules | `(tactic| tm_at "rs") => `(tactic| first | with_reducible refine w_wt ?_ | fail "no")
local macro_rules | `(tactic| tm_at "rs") => `(tactic| first | ((with_reducible refine' w_aug ?h ?k); (case h => rfl)) | fail "no")
local macro_rules | `(tactic| tm_at "rs") => `(tactic| first | with_reducible refine w_sp ?_ | fail "no")
local macro_rules | `(tactic| tm_at "rs") => `(tactic| first | with_reducible refine w_iT ?_ | fail "no")
local macro_rules | `(tactic| tm_at "rs") => `(tactic| first | with_reducible refine w_iL ?_ | fail "no")
local macro_rules | `(tactic| tm_at "rs") => `(tactic| first | with_reducible refine w_iR2 ?_ | fail "no")
local macro_rules | `(tactic| tm_at "rs") => `(tactic| first | with_reducible refine w_iR1 ?_ | fail "no")
local macro_rules | `(tactic| tm_at "rs") => `(tactic| first | with_reducible refine w_for ?_ | fail "no")
local macro_rules | `(tactic| tm_at "rs") => `(tactic| first | with_reducible refine w_poE ?_ | fail "no")
local macro_rules | `(tactic| tm_at "rs") => `(tactic| first | with_reducible refine w_po1 ?_ | fail "no")
local macro_rules | `(tactic| tm_at "rs") => `(tactic| first | with_reducible refine w_po0 ?_ | fail "no")
local macro_rules | `(tactic| tm_at "rs") => `(tactic| first | with_reducible refine w_sl ?_ | fail "no")
local macro_rules | `(tactic| tm_at "rs") => `(tactic| first | with_reducible refine w_bm ?_ | fail "no")
local macro_rules | `(tactic| tm_at "rs") => `(tactic| first | with_reducible refine w_gsub ?_ | fail "no")
local macro_rules | `(tactic| tm_at "rs") => `(tactic| first | with_reducible refine w_asgG ?_ | fail "no")
local macro_rules | `(tactic| tm_at "rs") => `(tactic| first | with_reducible refine w_par3E ?_ | fail "no")
local macro_rules | `(tactic| tm_at "rs") => `(tactic| first | with_reducible refine w_par3 ?_ | fail "no")
local macro_rules | `(tactic| tm_at "rs") => `(tactic| first | with_reducible refine w_parE ?_ | fail "no")
local macro_rules | `(tactic| tm_at "rs") => `(tactic| first | with_reducible refine w_par ?_ | fail "no")
local macro_rules | `(tactic| tm_at "rs") => `(tactic| first | with_reducible refine w_drop ?_ | fail "no")
local macro_rules | `(tactic| tm_at "rs") => `(tactic| first | with_reducible refine w_next ?_ | fail "no")
local macro_rules | `(tactic| tm_at "rs") => `(tactic| first | with_reducible refine w_B ?_ | fail "no")
local macro_rules | `(tactic| tm_at "rs") => `(tactic| first | with_reducible refine w_notV ?_ | fail "no")
local macro_rules | `(tactic| tm_at "rs") => `(tactic| first | with_reducible refine w_orV ?_ | fail "no")
local macro_rules | `(tactic| tm_at "rs") => `(tactic| first | with_reducible refine w_andV ?_ | fail "no")
local macro_rules | `(tactic| tm_at "rs") => `(tactic| first | with_reducible refine w_ife ?_ | fail "no")
local macro_rules | `(tactic| tm_at "rs") => `(tactic| first | with_reducible refine w_not ?_ | fail "no")
local macro_rules | `(tactic| tm_at "rs") => `(tactic| first | with_reducible refine w_and ?_ | fail "no")
local macro_rules | `(tactic| tm_at "rs") => `(tactic| first | with_reducible refine w_or ?_ | fail "no")
local macro_rules | `(tactic| tm_at "rs") => `(tactic| first | with_reducible refine w_ifF ?_ | fail "no")
local macro_rules | `(tactic| tm_at "rs") => `(tactic| first | with_reducible refine w_ifNF ?_ | fail "no")
local macro_rules | `(tactic| tm_at "rs") => `(tactic| first | with_reducible refine w_ifNT ?_ | fail "no")
local macro_rules | `(tactic| tm_at "rs") => `(tactic| first | with_reducible refine w_ifT ?_ | fail "no")
local macro_rules | `(tactic| tm_at "rs") => `(tactic| first | with_reducible refine w_tup ?_ | fail "no")
local macro_rules | `(tactic| tm_at "rs") => `(tactic| first | with_reducible refine w_lst ?_ | fail "no")
local macro_rules | `(tactic| tm_at "rs") => `(tactic| first | with_reducible refine w_intI ?_ | fail "no")
local macro_rules | `(tactic| tm_at "rs") => `(tactic| first | with_reducible refine w_min ?_ | fail "no")
local macro_rules | `(tactic| tm_at "rs") => `(tactic| first | with_reducible refine w_max ?_ | fail "no")
local macro_rules | `(tactic| tm_at "rs") => `(tactic| first | with_reducible refine w_neS ?_ | fail "no")
local macro_rules | `(tactic| tm_at "rs") => `(tactic| first | with_reducible refine w_eqS ?_ | fail "no")
local macro_rules | `(tactic| tm_at "rs") => `(tactic| first | ((with_reducible refine w_orF ?h ?i (fun _ _ _ _ => ?_)); (case h => omega); (case i => omega)) | fail "no")
local macro_rules | `(tactic| tm_at "rs") => `(tactic| first | with_reducible refine w_neB ?_ | fail "no")
local macro_rules | `(tactic| tm_at "rs") => `(tactic| first | with_reducible refine w_eqB ?_ | fail "no")
local macro_rules | `(tactic| tm_at "rs") => `(tactic| first | with_reducible refine w_notBT ?_ | fail "no")
local macro_rules | `(tactic| tm_at "rs") => `(tactic| first | with_reducible refine w_isBT ?_ | fail "no")
local macro_rules | `(tactic| tm_at "rs") => `(tactic| first | ((with_reducible refine w_notNx ?h ?_); (case h => (intro e; cases e))) | fail "no")
local macro_rules | `(tactic| tm_at "rs") => `(tactic| first | ((with_reducible refine w_isNx ?h ?_); (case h => (intro e; cases e))) | fail "no")
local macro_rules | `(tactic| tm_at "rs") => `(tactic| first | with_reducible refine w_notN0 ?_ | fail "no")
local macro_rules | `(tactic| tm_at "rs") => `(tactic| first | with_reducible refine w_isN0 ?_ | fail "no")
local macro_rules | `(tactic| tm_at "rs") => `(tactic| first | with_reducible refine w_neI ?_ | fail "no")
local macro_rules | `(tactic| tm_at "rs") => `(tactic| first | with_reducible refine w_eqI ?_ | fail "no")
local macro_rules | `(tactic| tm_at "rs") => `(tactic| first | with_reducible refine w_geI ?_ | fail "no")
local macro_rules | `(tactic| tm_at "rs") => `(tactic| first | with_reducible refine w_gtI ?_ | fail "no")
local macro_rules | `(tactic| tm_at "rs") => `(tactic| first | with_reducible refine w_leI ?_ | fail "no")
local macro_rules | `(tactic| tm_at "rs") => `(tactic| first | with_reducible refine w_ltI ?_ | fail "no")
local macro_rules | `(tactic| tm_at "rs") => `(tactic| first | with_reducible refine w_andI ?_ | fail "no")
local macro_rules | `(tactic| tm_at "rs") => `(tactic| first | ((with_reducible refine w_andF ?h ?i (fun _ _ _ _ _ => ?_)); (case h => omega); (case i => omega)) | fail "no")
local macro_rules | `(tactic| tm_at "rs") => `(tactic| first | with_reducible refine w_I0 ?_ | fail "no")
local macro_rules | `(tactic| tm_at "rs") => `(tactic| first | with_reducible refine w_addI ?_ | fail "no")
local macro_rules | `(tactic| tm_at "rs") => `(tactic| first | with_reducible refine w_isbl ?_ | fail "no")
local macro_rules | `(tactic| tm_at "rs") => `(tactic| first | with_reducible refine w_test ?_ | fail "no")
local macro_rules | `(tactic| tm_at "rs") => `(tactic| first | with_reducible refine w_callK ?_ | fail "no")
local macro_rules | `(tactic| tm_at "rs") => `(tactic| first | with_reducible refine w_call ?_ | fail "no")
local macro_rules | `(tactic| tm_at "rs") => `(tactic| first | with_reducible refine w_ifs ?_ | fail "no")
local macro_rules | `(tactic| tm_at "rs") => `(tactic| first | with_reducible refine w_ret ?_ | fail "no")
local macro_rules | `(tactic| tm_at "rs") => `(tactic| first | with_reducible refine w_asg ?_ | fail "no")
local macro_rules | `(tactic| tm_at "rs") => `(tactic| first | with_reducible refine w_nil ?_ | fail "no")
local macro_rules | `(tactic| tm_at "rs") => `(tactic| first | with_reducible refine w_cons ?_ | fail "no")
local macro_rules | `(tactic| tm_at "rs") => `(tactic| first | with_reducible refine w_cb ?_ | fail "no")
local macro_rules | `(tactic| tm_at "rs") => `(tactic| first | with_reducible refine w_rU ?_ | fail "no")
local macro_rules | `(tactic| tm_at "rs") => `(tactic| first | with_reducible refine w_un ?_ | fail "no")
local macro_rules | `(tactic| tm_at "rs") => `(tactic| first | with_reducible refine w_op ?_ | fail "no")
local macro_rules | `(tactic| tm_at "rs") => `(tactic| first | with_reducible refine w_c ?_ | fail "no")
local macro_rules | `(tactic| tm_at "rs") => `(tactic| first | with_reducible refine w_rt ?_ | fail "no")
local macro_rules | `(tactic| tm_at "rs") => `(tactic| first | with_reducible refine w_nx ?_ | fail "no")
local macro_rules | `(tactic| tm_at "rs") => `(tactic| first | with_reducible refine w_seq ?_ | fail "no")
local macro_rules | `(tactic| tm_at "rs") => `(tactic| first | ((with_reducible refine' w_var ?h ?k); (case h => rfl)) | fail "no")
def topS (i : Nat) : Stmt := PySem.Challenge.pw_runsums_k43_the_first_that_fails.main.body.getD i (.Pass ⟨0, 0, 0, 0⟩)
abbrev s_f_law_box : Stmt := topS 28
theorem sc_f_law_box : FnScope ["script", "k", "cell", "seed"] ["script", "k"] (defScope s_f_law_box) := ⟨rfl, rfl, rfl, by decide +kernel, rfl, by decide +kernel, by decide +kernel⟩
abbrev s_f_law_take : Stmt := topS 25
theorem sc_f_law_take : FnScope ["box", "wide", "digit", "one"] ["box", "wide"] (defScope s_f_law_take) := ⟨rfl, rfl, rfl, by decide +kernel, rfl, by decide +kernel, by decide +kernel⟩
abbrev s_f_law_piece : Stmt := topS 31
theorem sc_f_law_piece : FnScope ["box", "boxes", "at", "form", "j", "some", "k", "body"] ["box", "boxes", "at"] (defScope s_f_law_piece) := ⟨rfl, rfl, rfl, by decide +kernel, rfl, by decide +kernel, by decide +kernel⟩
abbrev s_f_law_ending_rows : Stmt := topS 32
theorem sc_f_law_ending_rows : FnScope ["box", "boxes", "rows", "turn", "more"] ["box", "boxes"] (defScope s_f_law_ending_rows) := ⟨rfl, rfl, rfl, by decide +kernel, rfl, by decide +kernel, by decide +kernel⟩
abbrev s_f_law_row : Stmt := topS 29
theorem sc_f_law_row : FnScope ["box", "boxes", "many", "word"] ["box", "boxes", "many"] (defScope s_f_law_row) := ⟨rfl, rfl, rfl, by decide +kernel, rfl, by decide +kernel, by decide +kernel⟩
abbrev s_f_law_any_rows : Stmt := topS 30
theorem sc_f_law_any_rows : FnScope ["box", "boxes", "many", "rows", "k"] ["box", "boxes"] (defScope s_f_law_any_rows) := ⟨rfl, rfl, rfl, by decide +kernel, rfl, by decide +kernel, by decide +kernel⟩
abbrev s_f_law_some_program : Stmt := topS 33
theorem sc_f_law_some_program : FnScope ["box", "boxes"] ["box"] (defScope s_f_law_some_program) := ⟨rfl, rfl, rfl, by decide +kernel, rfl, by decide +kernel, by decide +kernel⟩
abbrev s_f_law_begin : Stmt := topS 34
theorem sc_f_law_begin : FnScope ["box", "boxes", "found", "j", "turn"] ["box", "boxes"] (defScope s_f_law_begin) := ⟨rfl, rfl, rfl, by decide +kernel, rfl, by decide +kernel, by decide +kernel⟩
abbrev s_f_law_after : Stmt := topS 35
theorem sc_f_law_after : FnScope ["rows", "stand", "k", "contents", "word", "j", "more"] ["rows", "stand"] (defScope s_f_law_after) := ⟨rfl, rfl, rfl, by decide +kernel, rfl, by decide +kernel, by decide +kernel⟩
abbrev s_f_law_run : Stmt := topS 36
theorem sc_f_law_run : FnScope ["rows", "begin", "limit", "stands"] ["rows", "begin", "limit"] (defScope s_f_law_run) := ⟨rfl, rfl, rfl, by decide +kernel, rfl, by decide +kernel, by decide +kernel⟩
abbrev s_f_law_stopping : Stmt := topS 37
theorem sc_f_law_stopping : FnScope ["box", "limit", "turn", "boxes", "rows", "begin", "word", "stands"] ["box", "limit"] (defScope s_f_law_stopping) := ⟨rfl, rfl, rfl, by decide +kernel, rfl, by decide +kernel, by decide +kernel⟩
abbrev s_f_law_asked : Stmt := topS 38
theorem sc_f_law_asked : FnScope ["boxes", "rows", "found", "j", "k", "row"] ["boxes", "rows"] (defScope s_f_law_asked) := ⟨rfl, rfl, rfl, by decide +kernel, rfl, by decide +kernel, by decide +kernel⟩
abbrev s_f_law_answer : Stmt := topS 39
theorem sc_f_law_answer : FnScope ["boxes", "rows", "begin", "stands", "c", "s", "found", "j", "h", "q", "i", "t", "some", "k", "contents", "stand"] ["boxes", "rows", "begin", "stands", "c"] (defScope s_f_law_answer) := ⟨rfl, rfl, rfl, by decide +kernel, rfl, by decide +kernel, by decide +kernel⟩
abbrev s_f_law_named : Stmt := topS 41
theorem sc_f_law_named : FnScope ["letter", "numbers", "k"] ["letter", "numbers"] (defScope s_f_law_named) := ⟨rfl, rfl, rfl, by decide +kernel, rfl, by decide +kernel, by decide +kernel⟩
abbrev s_f_law_row_sayings : Stmt := topS 43
theorem sc_f_law_row_sayings : FnScope ["rows", "k", "done", "left", "row", "e"] ["rows", "k", "done", "left"] (defScope s_f_law_row_sayings) := ⟨rfl, rfl, rfl, by decide +kernel, rfl, by decide +kernel, by decide +kernel⟩
abbrev s_f_law_sum : Stmt := topS 42
theorem sc_f_law_sum : FnScope ["terms", "found", "term"] ["terms"] (defScope s_f_law_sum) := ⟨rfl, rfl, rfl, by decide +kernel, rfl, by decide +kernel, by decide +kernel⟩
abbrev s_f_law_sayings : Stmt := topS 44
theorem sc_f_law_sayings : FnScope ["boxes", "rows", "one", "two", "s", "c", "h", "d", "q", "g", "i", "m", "sign", "xs", "ys", "boxed", "done", "peak", "found", "r", "l", "stops", "k", "row", "j", "e", "raised", "sunk", "left", "right"] ["boxes", "rows"] (defScope s_f_law_sayings) := ⟨rfl, rfl, rfl, by decide +kernel, rfl, by decide +kernel, by decide +kernel⟩
abbrev s_f_Saying__init : Stmt := (clsB (topS 23)).getD 0 (.Pass ⟨0, 0, 0, 0⟩)
theorem sc_f_Saying__init : FnScope ["self", "word", "left", "right"] ["self", "word", "left", "right"] (defScope s_f_Saying__init) := ⟨rfl, rfl, rfl, by decide +kernel, rfl, by decide +kernel, by decide +kernel⟩
abbrev s_f_let_by : Stmt := topS 9
theorem sc_f_let_by : FnScope ["number"] ["number"] (defScope s_f_let_by) := ⟨rfl, rfl, rfl, by decide +kernel, rfl, by decide +kernel, by decide +kernel⟩
abbrev s_f_power_of : Stmt := topS 12
theorem sc_f_power_of : FnScope ["base", "n", "found"] ["base", "n"] (defScope s_f_power_of) := ⟨rfl, rfl, rfl, by decide +kernel, rfl, by decide +kernel, by decide +kernel⟩
abbrev s_f_product : Stmt := topS 11
theorem sc_f_product : FnScope ["one", "other"] ["one", "other"] (defScope s_f_product) := ⟨rfl, rfl, rfl, by decide +kernel, rfl, by decide +kernel, by decide +kernel⟩
abbrev s_f_come_to : Stmt := topS 13
theorem sc_f_come_to : FnScope ["word", "one", "other"] ["word", "one", "other"] (defScope s_f_come_to) := ⟨rfl, rfl, rfl, by decide +kernel, rfl, by decide +kernel, by decide +kernel⟩
abbrev s_f_number_of : Stmt := topS 10
theorem sc_f_number_of : FnScope ["name", "answer", "e"] ["name", "answer"] (defScope s_f_number_of) := ⟨rfl, rfl, rfl, by decide +kernel, rfl, by decide +kernel, by decide +kernel⟩
abbrev s_f_worth : Stmt := topS 14
theorem sc_f_worth : FnScope ["term", "answer", "numbers", "left", "part", "known", "other"] ["term", "answer"] (defScope s_f_worth) := ⟨rfl, rfl, rfl, by decide +kernel, rfl, by decide +kernel, by decide +kernel⟩
abbrev s_f_fits : Stmt := topS 5
theorem sc_f_fits : FnScope ["one", "other"] ["one", "other"] (defScope s_f_fits) := ⟨rfl, rfl, rfl, by decide +kernel, rfl, by decide +kernel, by decide +kernel⟩
abbrev s_f_holds : Stmt := topS 16
theorem sc_f_holds : FnScope ["saying", "answer", "left", "right"] ["saying", "answer"] (defScope s_f_holds) := ⟨rfl, rfl, rfl, by decide +kernel, rfl, by decide +kernel, by decide +kernel⟩
abbrev s_f_first_wrong : Stmt := topS 17
theorem sc_f_first_wrong : FnScope ["sayings", "answer", "at", "saying"] ["sayings", "answer"] (defScope s_f_first_wrong) := ⟨rfl, rfl, rfl, by decide +kernel, rfl, by decide +kernel, by decide +kernel⟩
abbrev s_f_law_worth : Stmt := topS 26
theorem sc_f_law_worth : FnScope ["term", "answer", "one", "other", "found"] ["term", "answer"] (defScope s_f_law_worth) := ⟨rfl, rfl, rfl, by decide +kernel, rfl, by decide +kernel, by decide +kernel⟩
abbrev s_f_law_holds : Stmt := topS 27
theorem sc_f_law_holds : FnScope ["saying", "answer", "word", "left", "right", "one", "other"] ["saying", "answer"] (defScope s_f_law_holds) := ⟨rfl, rfl, rfl, by decide +kernel, rfl, by decide +kernel, by decide +kernel⟩
abbrev s_f_law_first : Stmt := topS 47
theorem sc_f_law_first : FnScope ["sayings", "answer", "at", "said"] ["sayings", "answer"] (defScope s_f_law_first) := ⟨rfl, rfl, rfl, by decide +kernel, rfl, by decide +kernel, by decide +kernel⟩
abbrev s_f_law_right : Stmt := topS 48
theorem sc_f_law_right : FnScope ["sayings", "answer", "at", "some", "word", "left", "right", "numbers", "begun", "handed", "found"] ["sayings", "answer", "at"] (defScope s_f_law_right) := ⟨rfl, rfl, rfl, by decide +kernel, rfl, by decide +kernel, by decide +kernel⟩
abbrev s_f_law_least_c : Stmt := topS 40
theorem sc_f_law_least_c : FnScope ["rows", "begin", "stands", "greatest", "k", "contents", "c"] ["rows", "begin", "stands"] (defScope s_f_law_least_c) := ⟨rfl, rfl, rfl, by decide +kernel, rfl, by decide +kernel, by decide +kernel⟩
abbrev s_f_law_spoilt : Stmt := topS 45
theorem sc_f_law_spoilt : FnScope ["box", "answer", "names", "name", "form", "number", "found", "bit", "some"] ["box", "answer"] (defScope s_f_law_spoilt) := ⟨rfl, rfl, rfl, by decide +kernel, rfl, by decide +kernel, by decide +kernel⟩
abbrev s_f_law_tame : Stmt := topS 46
theorem sc_f_law_tame : FnScope ["answer"] ["answer"] (defScope s_f_law_tame) := ⟨rfl, rfl, rfl, by decide +kernel, rfl, by decide +kernel, by decide +kernel⟩
abbrev s_f_law : Stmt := topS 49
theorem sc_f_law : FnScope ["script", "box", "more", "boxes", "rows", "begin", "stands", "answer", "sayings", "k", "at", "bad"] ["script"] (defScope s_f_law) := ⟨rfl, rfl, rfl, by decide +kernel, rfl, by decide +kernel, by decide +kernel⟩
/-! a box of draws -/
def BoxAt (H : Hp) (b : Addr) : Prop := ∃ x s : Int, H b = some (.lst [.int x, .int s]) ∧ 0 ≤ x ∧ 0 ≤ s ∧ s ≤ 2147483629
theorem BoxAt.sm {H H' : Hp} {b : Addr} (h : BoxAt H b) (e : Sm H H') : BoxAt H' b := by
  obtain ⟨x, s, h, r⟩ := h
  exact ⟨x, s, e _ _ h, r⟩
theorem BoxAt.kp {H H' : Hp} {b c : Addr} (h : BoxAt H b) (n : b ≠ c) (e : Kp c H H') : BoxAt H' b := by
  obtain ⟨x, s, h, r⟩ := h
  exact ⟨x, s, e _ _ n h, r⟩
theorem BoxAt.lst {H : Hp} {b : Addr} (h : BoxAt H b) : ∃ xs, H b = some (.lst xs) := by
  obtain ⟨x, s, h, r⟩ := h
  exact ⟨_, h⟩
def Wd (w : Int) : Prop := 0 < w ∧ w.natAbs.log2 < 9000
theorem wd_of {w : Int} (h0 : 0 < w) (h : w ≤ 10 ^ 60) : Wd w := by
  refine ⟨h0, ?_⟩
  have h1 : w.natAbs ≠ 0 := by omega
  rw [Nat.log2_lt h1]
  have h2 : w.natAbs ≤ 10 ^ 60 := by omega
  exact Nat.lt_of_le_of_lt h2 (by decide +kernel)
theorem wd_pow {w : Int} {k : Nat} (h0 : 0 < w) (h : w ≤ 2 ^ k) (hk : k < 9000) : Wd w := by
  refine ⟨h0, ?_⟩
  have h1 : w.natAbs ≠ 0 := by omega
  rw [Nat.log2_lt h1]
  have h2 : (w.natAbs : Int) ≤ ((2 ^ k : Nat) : Int) := by
    rw [Int.natCast_pow]
    have e : ((w.natAbs : Nat) : Int) = w := by omega
    rw [e]; exact h
  have h3 : w.natAbs ≤ 2 ^ k := Int.ofNat_le.mp h2
  exact Nat.lt_of_le_of_lt h3 (Nat.pow_lt_pow_right (by decide) hk)
theorem wd_two {z j : Int} (e : z = 2 ^ j.toNat) (l : j < 9000) : Wd z := by
  have h1 : (1 : Int) ≤ 2 ^ j.toNat := by
    have := Nat.two_pow_pos j.toNat
    have h2 : (2 : Int) ^ j.toNat = ((2 ^ j.toNat : Nat) : Int) := by rw [Int.natCast_pow]; rfl
    omega
  exact wd_pow (k := j.toNat) (by omega) (by omega) (by omega)
theorem ne_newB {H : Hp} {p b : Addr} (hp : H p = none) (hb : BoxAt H b) : p ≠ b := by
  obtain ⟨x, s, h, _⟩ := hb
  exact ne_new hp h
theorem ne_newB2 {H : Hp} {p b : Addr} (hp : H p = none) (hb : BoxAt H b) : b ≠ p := (ne_newB hp hb).symm
theorem g_bx {H H0 : Hp} {b : Addr} (_ : BoxAt H0 b) (h : BoxAt H b) : BoxAt H b := h
local macro_rules | `(tactic| tm_at "rbx") => `(tactic| first | with_reducible assumption | ((refine' g_bx ?sg ?sh); (case sg => with_reducible assumption); (case sh => tm_at "rbx0")) | fail "no")
local macro_rules | `(tactic| tm_at "rbx0") => `(tactic| first | with_reducible assumption | ((refine' BoxAt.sm ?sa ?sb); (case sb => with_reducible assumption); (case sa => tm_at "rbx0")) | ((refine' BoxAt.kp ?sa ?sc ?sb); (case sb => with_reducible assumption); (case sc => tm_at "rne"); (case sa => tm_at "rbx0")) | fail "no")
local macro_rules | `(tactic| tm_at "rne") => `(tactic| first | ((refine' ne_newB ?sa ?sb); (case sa => with_reducible assumption); (case sb => tm_at "rbx")) | ((refine' ne_newB2 ?sa ?sb); (case sa => with_reducible assumption); (case sb => tm_at "rbx")) | fail "no")
theorem AllT.kpB {P : List V → Prop} {xs : List V} {H H' : Hp} {b : Addr} (h : AllT P xs H) (hb : BoxAt H b) (e : Kp b H H') : AllT P xs H' := by
  obtain ⟨x, s, hb, _⟩ := hb
  exact h.kp hb e
local macro_rules | `(tactic| tm_at "rall") => `(tactic| first | with_reducible assumption | exact AllT.nil | ((refine' AllT.add ?sa ?sb ?sp); (case sa => tm_at "rall"); (case sb => tm_at "rlk"); (case sp => with_reducible assumption)) | ((refine' AllT.add ?sa ?sb ?sp); (case sa => tm_at "rall"); (case sb => tm_at "rlk")) | ((refine' AllT.app ?sa ?sb); (case sa => tm_at "rall"); (case sb => tm_at "rall")) | ((refine' AllT.cut ?sa); (case sa => tm_at "rall")) | ((refine' AllT.sm ?sa ?sb); (case sb => with_reducible assumption); (case sa => tm_at "rall")) | ((refine' AllT.kpB ?sa ?sc ?sb); (case sb => with_reducible assumption); (case sc => tm_at "rbx"); (case sa => tm_at "rall")) | ((refine' AllT.kp ?sa ?sc ?sb); (case sb => with_reducible assumption); (case sc => tm_at "rlk"); (case sa => tm_at "rall")) | fail "no")
theorem SqF.kpB {K : PySem.W.Frag} {xs : List V} {a : Addr} {H H' : Hp} {b : Addr} (h : SqF K H a xs) (hb : BoxAt H b) (e : Kp b H H') : SqF K H' a xs := by
  obtain ⟨x, s, hb, _⟩ := hb
  exact h.kp hb e
local macro_rules | `(tactic| tm_at "rsf0") => `(tactic| ((refine' SqF.kpB ?sa ?sc ?sb); (case sb => with_reducible assumption); (case sc => tm_at "rbx"); (case sa => tm_at "rsf0")))
local macro_rules | `(tactic| tm_at "rz") => `(tactic| first | with_reducible assumption | tm_at "rfr" | tm_at "rkp" | tm_at "rsm" | tm_at "rbx" | tm_at "rsf" | tm_at "rlk" | tm_at "rsq" | tm_at "rne" | omega | fail "no")
/-! tuples stay as they are -/
def Tk (H H' : Hp) : Prop := ∀ p xs, H p = some (.tup xs) → H' p = some (.tup xs)
theorem Tk.refl (H : Hp) : Tk H H := fun _ _ h => h
theorem Tk.trans {H H1 H2 : Hp} (a : Tk H H1) (b : Tk H1 H2) : Tk H H2 := fun p xs h => b p xs (a p xs h)
theorem Tk.sm {H H' : Hp} (e : Sm H H') : Tk H H' := fun _ _ h => e _ _ h
theorem Tk.kp {H H' : Hp} {b : Addr} {ys : List V} (hb : H b = some (.lst ys)) (e : Kp b H H') : Tk H H' := fun p xs q => e _ _ (by
  intro z
  rw [z, hb] at q
  cases q) q
theorem Tk.kd {H H' : Hp} {b : Addr} {ys : List (Key × V)} (hb : H b = some (.dK ys)) (e : Kp b H H') : Tk H H' := fun p xs q => e _ _ (by
  intro z
  rw [z, hb] at q
  cases q) q
theorem Tk.ki {H H' : Hp} {b C dx : Addr} {ys : List (Str × V)} (hb : H b = some (.ins C dx ys)) (e : Kp b H H') : Tk H H' := fun p xs q => e _ _ (by
  intro z
  rw [z, hb] at q
  cases q) q
theorem Tk.kb {H H' : Hp} {b : Addr} (hb : BoxAt H b) (e : Kp b H H') : Tk H H' := by
  obtain ⟨x, s, hb, _⟩ := hb
  exact Tk.kp hb e
theorem Tk.kn {H H' : Hp} {b : Addr} (hb : H b = none) (e : Kp b H H') : Tk H H' := fun p xs q => e _ _ (ne_of_none q hb) q
local macro_rules | `(tactic| tm_at "rtk") => `(tactic| first | with_reducible assumption | exact Tk.refl _ | tm_at "rtk1" | ((refine' Tk.trans ?sa ?sb); (case sb => tm_at "rtk1"); (case sa => tm_at "rtk")) | fail "no")
local macro_rules | `(tactic| tm_at "rtk1") => `(tactic| first | exact Tk.sm (by with_reducible assumption) | ((refine' Tk.kb ?sa ?sb); (case sb => with_reducible assumption); (case sa => tm_at "rbx")) | ((refine' Tk.kp ?sa ?sb); (case sb => with_reducible assumption); (case sa => tm_at "rlk")) | ((refine' Tk.kd ?sa ?sb); (case sb => with_reducible assumption); (case sa => tm_at "rlk")) | ((refine' Tk.ki ?sa ?sb); (case sb => with_reducible assumption); (case sa => tm_at "rlk")) | ((refine' Tk.kn ?sa ?sb); (case sb => with_reducible assumption); (case sa => tm_at "rfr")) | with_reducible assumption | fail "no")
/-- a tuple, told ahead -/
theorem tk_lk {H H' : Hp} {p : Addr} {xs : List V} (h : H p = some (.tup xs)) (e : Tk H H') : H' p = some (.tup xs) := e _ _ h
local macro_rules | `(tactic| tm_at "rlk0") => `(tactic| first | ((refine' tk_lk ?sb ?sa); (case sa => with_reducible assumption); (case sb => tm_at "rlk0")) | fail "no")
/-! what stands in nested tuples -/
mutual
def TpD (H : Hp) : PyData → V → Prop
  | .tuple ds, v => ∃ p xs, v = .ref p ∧ H p = some (.tup xs) ∧ TpL H ds xs
  | .int i, v => v = .int i
  | .str s, v => v = .str s
  | .bool b, v => v = .bl b
  | .none, v => v = .non
  | .list _, _ => False
  | .dict _, _ => False
def TpL (H : Hp) : List PyData → List V → Prop
  | [], xs => xs = []
  | d :: ds, xs => ∃ v vs, xs = v :: vs ∧ TpD H d v ∧ TpL H ds vs
end
mutual
theorem TpD.tk {H H' : Hp} (e : Tk H H') : ∀ (d : PyData) (v : V), TpD H d v → TpD H' d v
  | .tuple ds, v, h => by
    unfold TpD at h ⊢
    obtain ⟨p, xs, rfl, q, r⟩ := h
    exact ⟨p, xs, rfl, e _ _ q, TpL.tk e ds xs r⟩
  | .int i, v, h => by unfold TpD at h ⊢; exact h
  | .str s, v, h => by unfold TpD at h ⊢; exact h
  | .bool b, v, h => by unfold TpD at h ⊢; exact h
  | .none, v, h => by unfold TpD at h ⊢; exact h
  | .list _, v, h => by unfold TpD at h; exact h.elim
  | .dict _, v, h => by unfold TpD at h; exact h.elim
theorem TpL.tk {H H' : Hp} (e : Tk H H') : ∀ (ds : List PyData) (xs : List V), TpL H ds xs → TpL H' ds xs
  | [], xs, h => by unfold TpL at h ⊢; exact h
  | d :: ds, xs, h => by
    unfold TpL at h ⊢
    obtain ⟨v, vs, rfl, q, r⟩ := h
    exact ⟨v, vs, rfl, TpD.tk e d v q, TpL.tk e ds vs r⟩
end
mutual
theorem TpD.dp {K : PySem.W.Frag} {H : Hp} : ∀ (d : PyData) (v : V), TpD H d v → Dp K H v d
  | .tuple ds, v, h => by
    unfold TpD at h
    obtain ⟨p, xs, rfl, q, r⟩ := h
    exact .tup (st_of q) (TpL.dp ds xs r)
  | .int i, v, h => by unfold TpD at h; subst h; exact .int _
  | .str s, v, h => by unfold TpD at h; subst h; exact .str _
  | .bool b, v, h => by unfold TpD at h; subst h; exact .bl _
  | .none, v, h => by unfold TpD at h; subst h; exact .non
  | .list _, v, h => by unfold TpD at h; exact h.elim
  | .dict _, v, h => by unfold TpD at h; exact h.elim
theorem TpL.dp {K : PySem.W.Frag} {H : Hp} : ∀ (ds : List PyData) (xs : List V), TpL H ds xs → DpAll K H xs ds
  | [], xs, h => by unfold TpL at h; subst h; exact .nil
  | d :: ds, xs, h => by
    unfold TpL at h
    obtain ⟨v, vs, rfl, q, r⟩ := h
    exact .cons (TpD.dp d v q) (TpL.dp ds vs r)
end
theorem tpd_t {H : Hp} {p : Addr} {xs : List V} {ds : List PyData} (h : H p = some (.tup xs)) (k : TpL H ds xs) : TpD H (.tuple ds) (.ref p) := by
  unfold TpD
  exact ⟨p, xs, rfl, h, k⟩
theorem tpd_i {H : Hp} {i : Int} : TpD H (.int i) (.int i) := by
  unfold TpD
  rfl
theorem tpd_s {H : Hp} {s : Str} : TpD H (.str s) (.str s) := by
  unfold TpD
  rfl
theorem tpl_nil {H : Hp} : TpL H [] [] := by
  unfold TpL
  rfl
theorem tpl_cons {H : Hp} {d : PyData} {ds : List PyData} {v : V} {vs : List V} (h : TpD H d v) (k : TpL H ds vs) : TpL H (d :: ds) (v :: vs) := by
  unfold TpL
  exact ⟨v, vs, rfl, h, k⟩
def nV (l : List Nat) : List V := l.map fun t => V.int (t : Nat)
def nD (l : List Nat) : List PyData := l.map fun t => PyData.int (t : Nat)
theorem tpl_nat {H : Hp} : ∀ l : List Nat, TpL H (nD l) (nV l)
  | [] => tpl_nil
  | x :: l => tpl_cons tpd_i (tpl_nat l)
theorem nV_snoc (l : List Nat) (x : Nat) : nV (l ++ [x]) = nV l ++ [V.int (x : Nat)] := List.map_append
theorem nV_len (l : List Nat) : (nV l).length = l.length := List.length_map _
theorem nV_app (l m : List Nat) : nV (l ++ m) = nV l ++ nV m := List.map_append
theorem nV_get {l : List Nat} {j x : Nat} (h : l[j]? = some x) : (nV l)[j]? = some (.int (x : Nat)) := by
  unfold nV
  rw [List.getElem?_map, h]
  rfl
theorem nV_take (l : List Nat) (n : Nat) : (nV l).take n = nV (l.take n) := by
  unfold nV
  rw [List.map_take]
theorem nV_drop (l : List Nat) (n : Nat) : (nV l).drop n = nV (l.drop n) := by
  unfold nV
  rw [List.map_drop]
theorem paired_last {α β : Type} {R : α → β → Prop} : ∀ {l : List α} {m : List β} {y : β}, Paired R l (m ++ [y]) → ∃ l' x, l = l' ++ [x] ∧ Paired R l' m ∧ R x y
  | _, [], _, .cons h .nil => ⟨[], _, rfl, .nil, h⟩
  | _, _ :: m, _, .cons h r => by
    obtain ⟨l', x, rfl, r1, r2⟩ := paired_last r
    exact ⟨_ :: l', x, rfl, .cons h r1, r2⟩
theorem paired_app {α β : Type} {R : α → β → Prop} : ∀ {l : List α} {m : List β} {l' : List α} {m' : List β}, Paired R l m → Paired R l' m' → Paired R (l ++ l') (m ++ m')
  | _, _, _, _, .nil, h => h
  | _, _, _, _, .cons a b, h => .cons a (paired_app b h)
theorem paired_mono {α β : Type} {F G : α → β → Prop} (h : ∀ p q, F p q → G p q) : ∀ {l : List α} {k : List β}, Paired F l k → Paired G l k
  | _, _, .nil => .nil
  | _, _, .cons a b => .cons (h _ _ a) (paired_mono h b)
theorem paired_len {α β : Type} {R : α → β → Prop} : ∀ {l : List α} {m : List β}, Paired R l m → l.length = m.length
  | _, _, .nil => rfl
  | _, _, .cons _ b => by rw [List.length_cons, List.length_cons, paired_len b]
theorem paired_get {α β : Type} {R : α → β → Prop} : ∀ {l : List α} {m : List β} {i : Nat} {x : α}, Paired R l m → l[i]? = some x → ∃ y, m[i]? = some y ∧ R x y
  | _, _, 0, _, .cons a b, h => ⟨_, rfl, by cases h; exact a⟩
  | _, _, i + 1, _, .cons a b, h => paired_get (i := i) b h
  | _, _, _, _, .nil, h => by cases h
theorem paired_getR {α β : Type} {R : α → β → Prop} : ∀ {l : List α} {m : List β} {i : Nat} {y : β}, Paired R l m → m[i]? = some y → ∃ x, l[i]? = some x ∧ R x y
  | _, _, 0, _, .cons a b, h => ⟨_, rfl, by cases h; exact a⟩
  | _, _, i + 1, _, .cons a b, h => paired_getR (i := i) b h
  | _, _, _, _, .nil, h => by cases h
theorem paired_rep {α β : Type} {R : α → β → Prop} {x : α} {y : β} (h : R x y) : ∀ n : Nat, Paired R (List.replicate n x) (List.replicate n y)
  | 0 => .nil
  | n + 1 => .cons h (paired_rep h n)
theorem w_rep1V {H : Hp} {Q : VK} {l : Addr} {v : V} {j : Int} (h : H l = some (.lst [v])) (h0 : 0 ≤ j) (h1 : j ≤ 1000) (k : ∀ p H', H p = none → Sm H H' → H' p = some (.lst (List.replicate j.toNat v)) → Q (.ref p) H') : gMul (.ref l) (.int j) H Q := by
  refine .inr (.inr ⟨l, j, _, rfl, rfl, h, by omega, by omega, sz_of ?_, fun p hp => k p _ hp (sm_new hp) ?_⟩)
  · show 1 * j.toNat ≤ _
    omega
  · rw [upd_same, List.flatten_replicate_singleton]
/-- one of a list -/
theorem w_ixP {K : PySem.W.Frag} {H : Hp} {Q : VK} {p : Addr} {xs : List V} {i : Int} (P : V → Prop) (h : SqL K H p xs ∨ SqT K H p xs) (h0 : 0 ≤ i) (h1 : i < (xs.length : Int)) (hx : ∀ x ∈ xs, P x) (k : ∀ x, P x → Q x H) : rIx K (.ref p) (.int i) H Q := by
  obtain ⟨j, rfl⟩ := Int.eq_ofNat_of_zero_le h0
  have hj : j < xs.length := by omega
  have e := List.getElem?_eq_getElem hj
  rcases h with h | h
  · exact w_ixL' h (atI_nat e) (k _ (hx _ (List.getElem_mem hj)))
  · exact w_ixT h (atI_nat e) (k _ (hx _ (List.getElem_mem hj)))
theorem w_ixN {K : PySem.W.Frag} {H : Hp} {Q : VK} {p : Addr} {xs : List Nat} {i : Int} (h : SqL K H p (nV xs) ∨ SqT K H p (nV xs)) (h0 : 0 ≤ i) (h1 : i < (xs.length : Int)) (k : ∀ x ∈ xs, Q (.int (x : Nat)) H) : rIx K (.ref p) (.int i) H Q :=
  w_ixP (fun v => ∃ x ∈ xs, v = .int (x : Nat)) h h0 (by rw [nV_len]; exact h1) (fun v hv => by
    obtain ⟨x, hx, e⟩ := List.mem_map.mp hv
    exact ⟨x, hx, e.symm⟩) (fun v hv => by
    obtain ⟨x, hx, rfl⟩ := hv
    exact k x hx)
theorem all2 {P : V → Prop} {x y : V} (hx : P x) (hy : P y) : ∀ z ∈ [x, y], P z := fun z hz => by
  rcases List.mem_cons.mp hz with rfl | hz
  · exact hx
  · rw [List.mem_singleton.mp hz]
    exact hy
theorem all3 {P : V → Prop} {x y u : V} (hx : P x) (hy : P y) (hu : P u) : ∀ z ∈ [x, y, u], P z := fun z hz => by
  rcases List.mem_cons.mp hz with rfl | hz
  · exact hx
  · exact all2 hy hu z hz
/-! a tuple that stands, or one of the module's own -/
def TpK (K : PySem.W.Frag) (H : Hp) (p : Addr) (xs : List V) : Prop := H p = some (.tup xs) ∨ ∀ H' : Hp, SqT K H' p xs
theorem TpK.imp {K : PySem.W.Frag} {H H' : Hp} {p : Addr} {xs : List V} (h : TpK K H p xs) (e : Tk H H') : TpK K H' p xs := h.elim (fun h => .inl (e _ _ h)) .inr
theorem TpK.sq {K : PySem.W.Frag} {H : Hp} {p : Addr} {xs : List V} (h : TpK K H p xs) : SqT K H p xs := h.elim st_of fun h => h H
theorem TpK.of {K : PySem.W.Frag} {H : Hp} {p : Addr} {xs : List V} (h : H p = some (.tup xs)) : TpK K H p xs := .inl h
local macro_rules | `(tactic| tm_at "rtp") => `(tactic| first | with_reducible assumption | exact TpK.of (by with_reducible assumption) | ((refine' TpK.imp ?sa ?sb); (case sa => with_reducible assumption); (case sb => tm_at "rtk")) | fail "no")
local macro_rules | `(tactic| tm_at "rst") => `(tactic| first | with_reducible assumption | ((refine' st_of ?sz); (case sz => tm_at "rlk")) | ((refine' TpK.sq ?sz); (case sz => tm_at "rtp")) | fail "no")
/-! zip(t, u, strict=True) over two tuples of one length -/
/-- two tuples of one length, as they stand at each turn -/
def ItS (K : PySem.W.Frag) (a b : Addr) : It :=
  ⟨fun i H => ∃ (xs ys : List V) (x y : V), SqT K H a xs ∧ SqT K H b ys ∧ xs[i]? = some x ∧ ys[i]? = some y, fun i H v H' => ∃ T x y, v = .ref T ∧ H T = none ∧ H' = upd H T (.tup [x, y]) ∧ (∀ xs, SqT K H a xs → xs[i]? = some x) ∧ ∀ ys, SqT K H b ys → ys[i]? = some y, fun i H => ∃ xs ys : List V, SqT K H a xs ∧ SqT K H b ys ∧ xs.length ≤ i ∧ ys.length ≤ i⟩
def iZipS (K : PySem.W.Frag) (ta tk : TA) : TI := fun σ H R => ta σ H fun vs H1 => tk σ H1 fun zs H2 => ∃ a b xs ys, vs = [.ref a, .ref b] ∧ zs = [.bl true] ∧ SqT K H2 a xs ∧ SqT K H2 b ys ∧ R (ItS K a b) H2
def ZsE (K : PySem.W.Frag) (R : It → Hp → Prop) (vs zs : List V) (H2 : Hp) : Prop := ∃ a b xs ys, vs = [.ref a, .ref b] ∧ zs = [.bl true] ∧ SqT K H2 a xs ∧ SqT K H2 b ys ∧ R (ItS K a b) H2
theorem w_iZS {K : PySem.W.Frag} {σ : L2.St} {H : Hp} {ta tk : TA} {R : It → Hp → Prop} (k : ta σ H fun vs H1 => tk σ H1 fun zs H2 => ZsE K R vs zs H2) : iZipS K ta tk σ H R := k
theorem w_iZSe {K : PySem.W.Frag} {H : Hp} {R : It → Hp → Prop} {a b : Addr} {xs ys : List V} (h1 : SqT K H a xs) (h2 : SqT K H b ys) (k : R (ItS K a b) H) : ZsE K R [.ref a, .ref b] [.bl true] H := ⟨a, b, xs, ys, rfl, rfl, h1, h2, k⟩
local macro_rules | `(tactic| tm_at "rs") => `(tactic| first | ((with_reducible refine' w_iZSe ?h ?i ?k); (case h => tm_at "rst"); (case i => tm_at "rst")) | fail "no")
local macro_rules | `(tactic| tm_at "rs") => `(tactic| first | with_reducible refine w_iZS ?_ | fail "no")
/-! texts: signs of them -/
theorem tl_len (z : Str) : z.cps.toList.length = z.length := Array.length_toList
theorem w_ixSF {K : PySem.W.Frag} {H : Hp} {Q : VK} {z : Str} {i : Int} (zl : z.length ≤ 1000) (h0 : 0 ≤ i) (h1 : i < (z.length : Int)) (k : ∀ c : Nat, z.cps.toList[i.toNat]? = some c → Q (.str ⟨#[c]⟩) H) : rIx K (.str z) (.int i) H Q := by
  obtain ⟨j, rfl⟩ := Int.eq_ofNat_of_zero_le h0
  have h2 : j < z.cps.toList.length := by rw [tl_len]; omega
  exact .inr (.inr ⟨z, j, _, rfl, rfl, sz_of (by omega), atI_nat (List.getElem?_eq_getElem h2), k _ (List.getElem?_eq_getElem h2)⟩)
def gInS : R2 := fun x y H Q => ∃ (c : Nat) (z : Str), x = .str ⟨#[c]⟩ ∧ y = .str z ∧ Q (.bl (decide (c ∈ z.cps.toList))) H
def gNotInS : R2 := fun x y H Q => ∃ (c : Nat) (z : Str), x = .str ⟨#[c]⟩ ∧ y = .str z ∧ Q (.bl (!decide (c ∈ z.cps.toList))) H
theorem w_inS {H : Hp} {Q : VK} {c : Nat} {z : Str} (k : Q (.bl (decide (c ∈ z.cps.toList))) H) : gInS (.str ⟨#[c]⟩) (.str z) H Q := ⟨c, z, rfl, rfl, k⟩
theorem w_notInS {H : Hp} {Q : VK} {c : Nat} {z : Str} (k : Q (.bl (!decide (c ∈ z.cps.toList))) H) : gNotInS (.str ⟨#[c]⟩) (.str z) H Q := ⟨c, z, rfl, rfl, k⟩
def ItsE (R : It → Hp → Prop) (v : V) (H1 : Hp) : Prop := ∃ x, v = .str x ∧ R (Its x) H1
theorem w_iS {σ : L2.St} {H : Hp} {te : TE} {R : It → Hp → Prop} (k : te σ H fun v H1 => ItsE R v H1) : iStr te σ H R := k
theorem w_iSe {H : Hp} {R : It → Hp → Prop} {z : Str} (k : R (Its z) H) : ItsE R (.str z) H := ⟨z, rfl, k⟩
theorem app_len (a b : Str) : (a ++ b).length = a.length + b.length := Array.size_append
def ChE (r' : R2) (tc : TE) (σ : L2.St) (Q : VK) (y z : V) (H3 : Hp) : Prop := ∃ k, z = .bl k ∧ (if k = true then tc σ H3 fun w' H4 => r' y w' H4 Q else Q (.bl false) H3)
theorem w_chain {r r' : R2} {ta tb tc : TE} {σ : L2.St} {H : Hp} {Q : VK} (k : ta σ H fun x H1 => tb σ H1 fun y H2 => r x y H2 fun z H3 => ChE r' tc σ Q y z H3) : tChain r r' ta tb tc σ H Q := k
theorem w_chE {r' : R2} {tc : TE} {σ : L2.St} {Q : VK} {y : V} {H3 : Hp} {p : Prop} [Decidable p] (a : p → tc σ H3 fun w' H4 => r' y w' H4 Q) (b : ¬ p → Q (.bl false) H3) : ChE r' tc σ Q y (.bl (decide p)) H3 := by
  refine ⟨_, rfl, ?_⟩
  by_cases h : p
  · rw [if_pos (decide_eq_true h)]; exact a h
  · rw [if_neg (by rw [decide_eq_false h]; decide)]; exact b h
def JoinE (K : PySem.W.Frag) (x y : V) (Q : VK) (H : Hp) : Prop := ∃ a p, ∃ ys : List Str, x = .str a ∧ [y] = [.ref p] ∧ (SqL K H p (ys.map V.str) ∨ SqT K H p (ys.map V.str)) ∧ (ys.map (·.length)).sum + ys.length * a.length ≤ 16777216 ∧ Q (.str (Txt.join a ys)) H
theorem w_join {K : PySem.W.Frag} {to te : TE} {σ : L2.St} {H : Hp} {Q : VK} (k : to σ H fun x H1 => (∃ a, x = .str a) ∧ te σ H1 fun y H2 => JoinE K x y Q H2) :
    tM1 (fun x xs H Q => ∃ a p, ∃ ys : List Str, x = .str a ∧ xs = [.ref p] ∧ (SqL K H p (ys.map V.str) ∨ SqT K H p (ys.map V.str)) ∧ (ys.map (·.length)).sum + ys.length * a.length ≤ 16777216 ∧ Q (.str (Txt.join a ys)) H) to te σ H Q := k
theorem w_isS {P : Prop} {s : Str} (k : P) : (∃ a, V.str s = .str a) ∧ P := ⟨⟨_, rfl⟩, k⟩
theorem w_slS {H : Hp} {Q : VK} {z : Str} {lo hi : Option Int} (zl : z.length ≤ 10000) (k : (cutS z lo hi).length ≤ z.length → Q (.str (cutS z lo hi)) H) : rSlS (.str z) lo hi H Q := ⟨z, rfl, sz_of (by omega), k (cutS_length _ _ _)⟩
theorem sgn_len (c : Nat) : (⟨#[c]⟩ : Str).length = 1 := rfl
local macro_rules | `(tactic| tm_at "rs") => `(tactic| first | ((with_reducible refine w_addS ?h ?_); (case h => first | (apply sz_of; omega) | (apply sz_of; simp only [app_len, sgn_len]; omega) | exact sz_of (by decide))) | fail "no")
local macro_rules | `(tactic| tm_at "rs") => `(tactic| first | ((with_reducible refine w_lenS ?h ?_); (case h => first | (apply sz_of; omega) | exact sz_of (by decide) | (apply sz_of; simp only [app_len, sgn_len]; omega))) | fail "no")
local macro_rules | `(tactic| tm_at "rs") => `(tactic| first | ((with_reducible refine w_ixSF ?h ?i ?j (fun _ _ => ?_)); (case h => first | omega | decide); (case i => omega); (case j => first | omega | decide)) | fail "no")
local macro_rules | `(tactic| tm_at "rs") => `(tactic| first | with_reducible refine w_iSe ?_ | fail "no")
local macro_rules | `(tactic| tm_at "rs") => `(tactic| first | with_reducible refine w_iS ?_ | fail "no")
local macro_rules | `(tactic| tm_at "rs") => `(tactic| first | with_reducible refine w_notInS ?_ | fail "no")
local macro_rules | `(tactic| tm_at "rs") => `(tactic| first | with_reducible refine w_inS ?_ | fail "no")
local macro_rules | `(tactic| tm_at "rs") => `(tactic| first | with_reducible refine w_chE (fun _ => ?_) (fun _ => ?_) | fail "no")
local macro_rules | `(tactic| tm_at "rs") => `(tactic| first | with_reducible refine w_chain ?_ | fail "no")
local macro_rules | `(tactic| tm_at "rs") => `(tactic| first | ((with_reducible refine w_slS ?h (fun _ => ?_)); (case h => first | omega | (simp only [app_len, sgn_len]; omega))) | fail "no")
local macro_rules | `(tactic| tm_at "rs") => `(tactic| first | with_reducible refine w_isS ?_ | fail "no")
local macro_rules | `(tactic| tm_at "rs") => `(tactic| first | with_reducible refine w_join ?_ | fail "no")
/-! enumerate over a text -/
def ItSE (x : Str) : It :=
  ⟨fun i _ => i < x.cps.size, fun i H v H' => ∃ T c, v = .ref T ∧ H T = none ∧ H' = upd H T (.tup [.int (i : Nat), .str ⟨#[c]⟩]) ∧ x.cps[i]? = some c, fun i _ => x.cps.size = i⟩
def iSE (ta : TA) : TI := fun σ H R => ta σ H fun vs H1 => ∃ x, vs = [.str x] ∧ R (ItSE x) H1
def SEe (R : It → Hp → Prop) (vs : List V) (H1 : Hp) : Prop := ∃ x, vs = [.str x] ∧ R (ItSE x) H1
theorem w_iSE {σ : L2.St} {H : Hp} {ta : TA} {R : It → Hp → Prop} (k : ta σ H fun vs H1 => SEe R vs H1) : iSE ta σ H R := k
theorem w_iSEe {H : Hp} {R : It → Hp → Prop} {x : Str} (k : R (ItSE x) H) : SEe R [.str x] H := ⟨x, rfl, k⟩
/-- what is never reached -/
theorem ps_never {X : Cx} {st : Stmt} : PS X st (fun _ _ _ => False) := ⟨fun _ _ _ _ _ _ h => h.elim⟩
local macro_rules | `(tactic| tm_at "rs") => `(tactic| first | with_reducible refine w_iSEe ?_ | fail "no")
local macro_rules | `(tactic| tm_at "rs") => `(tactic| first | with_reducible refine w_iSE ?_ | fail "no")
/-! enumerate over a list -/
def EnE (K : PySem.W.Frag) (R : It → Hp → Prop) (vs : List V) (H1 : Hp) : Prop := ∃ a xs, vs = [.ref a] ∧ SqL K H1 a xs ∧ R (Ite K a) H1
theorem w_iEn {K : PySem.W.Frag} {σ : L2.St} {H : Hp} {ta : TA} {R : It → Hp → Prop} (k : ta σ H fun vs H1 => EnE K R vs H1) : iEnum K ta σ H R := k
theorem w_iEne {K : PySem.W.Frag} {H : Hp} {R : It → Hp → Prop} {a : Addr} {xs : List V} (h : SqL K H a xs) (k : R (Ite K a) H) : EnE K R [.ref a] H := ⟨a, xs, rfl, h, k⟩
theorem loopEn {σ : L2.St} {H : Hp} {D : Ends} {K : PySem.W.Frag} {g : TG} {tb : TS} {a : Addr} {xs : List V} (Pv : Nat → L2.St → Hp → Prop) (h0 : Pv 0 σ H) (hl : ∀ i σ H, i ≤ xs.length → Pv i σ H → SqL K H a xs)
    (hs : ∀ i x T σ H H', i < xs.length → xs[i]? = some x → Pv i σ H → H T = none → Sm H H' → H' T = some (.tup [.int (i : Nat), x]) → g (.ref T) σ H' fun σ2 H2 => tb (En (Pv (i + 1)) (RT D) (NX D) (Pv (i + 1))) σ2 H2)
    (hd : ∀ σ H, Pv xs.length σ H → NX D σ H) : Loop (Ite K a) g tb D σ H :=
  for_it walk_enum Pv h0 hl (fun i x σ H H' hi p y => by
    obtain ⟨T, u, v, rfl, hT, rfl, h1, h2⟩ := y
    cases h1
    exact hs i v T σ H _ hi h2 p hT (sm_new hT) upd_same) hd
theorem lcEn {σ : L2.St} {H : Hp} {Q : VK} {K : PySem.W.Frag} {g : TG} {tt : TT} {te : TE} {vs : List Nat} {a : Addr} {xs : List V} (Pv : Addr → Nat → Hp → Prop) (h0 : ∀ D H', H D = none → Sm H H' → H' D = some (.lst []) → Pv D 0 H')
    (hl : ∀ D i H', H D = none → i ≤ xs.length → Pv D i H' → SqL K H' a xs)
    (hs : ∀ D i x T H1 H', H D = none → i < xs.length → xs[i]? = some x → Pv D i H1 → H1 T = none → Sm H1 H' → H' T = some (.tup [.int (i : Nat), x]) → g (.ref T) (wipe σ vs) H' fun σ2 H2 => LcGo vs σ σ2 (tt σ2 H2 fun b H3 => if b = true then te σ2 H3 fun y H4 => LcEnd D y (Pv D (i + 1)) H4 else Pv D (i + 1) H3))
    (hd : ∀ D H', H D = none → Pv D xs.length H' → Q (.ref D) H') : LcL (Ite K a) g tt te vs σ H Q := fun D hD =>
  lc_it walk_enum (Pv D) (h0 D _ hD (sm_new hD) upd_same) (fun i H' hi p => hl D i H' hD hi p) (fun i x H1 H' hi p y => by
    obtain ⟨T, u, v, rfl, hT, rfl, h1, h2⟩ := y
    cases h1
    exact hs D i v T H1 _ hD hi h2 p hT (sm_new hT) upd_same) (fun H' p => hd D H' hD p)
local macro_rules | `(tactic| tm_at "rs") => `(tactic| first | ((with_reducible refine' w_iEne ?h ?k); (case h => tm_at "rsq")) | fail "no")
local macro_rules | `(tactic| tm_at "rs") => `(tactic| first | with_reducible refine w_iEn ?_ | fail "no")
/-! figures to a number -/
/-! a walk backwards -/
def RvE (K : PySem.W.Frag) (R : It → Hp → Prop) (v : V) (H1 : Hp) : Prop := ∃ (a : Addr) (xs : List V), v = .ref a ∧ ((SqL K H1 a xs ∧ R (Itv K a xs.length) H1) ∨ (SqT K H1 a xs ∧ R (_root_.RT.ItvT K a xs.length) H1))
theorem w_iRv {K : PySem.W.Frag} {σ : L2.St} {H : Hp} {te : TE} {R : It → Hp → Prop} (k : te σ H fun v H1 => RvE K R v H1) : _root_.RT.iRevA K te σ H R := k
theorem w_rep1 {H : Hp} {Q : VK} {l : Addr} {m j : Int} (h : H l = some (.lst [.int m])) (h0 : 0 ≤ j) (h1 : j ≤ 1000) (k : ∀ p H', H p = none → Sm H H' → H' p = some (.lst ((List.replicate j.toNat m).map V.int)) → Q (.ref p) H') : gMul (.ref l) (.int j) H Q := by
  refine .inr (.inr ⟨l, j, _, rfl, rfl, h, by omega, by omega, sz_of ?_, fun p hp => k p _ hp (sm_new hp) ?_⟩)
  · show 1 * j.toNat ≤ _
    omega
  · rw [upd_same, List.map_replicate, List.flatten_replicate_singleton]
theorem w_addInts {K : PySem.W.Frag} {H : Hp} {Q : VK} {l m : Addr} {ns ms : List Int} (h1 : H l = some (.lst (ns.map V.int))) (h2 : H m = some (.lst (ms.map V.int))) (z : ns.length + ms.length ≤ 1000) (k : ∀ p H', H p = none → Sm H H' → H' p = some (.lst ((ns ++ ms).map V.int)) → Q (.ref p) H') :
    gAdd K (.ref l) (.ref m) H Q := w_addL h1 h2 (sz_of (by rw [List.length_map, List.length_map]; omega)) fun p H' a b c => k p H' a b (by rw [List.map_append]; exact c)
theorem w_ix4P {K : PySem.W.Frag} {H : Hp} {Q : VK} {i : Int} {p : Addr} {x0 x1 x2 x3 : Int} (h : SqL K H p [.int x0, .int x1, .int x2, .int x3]) (h0 : 1 ≤ i) (h1 : i < 4) (k : ∀ z : Int, z = x1 ∨ z = x2 ∨ z = x3 → Q (.int z) H) : rIx K (.ref p) (.int i) H Q := by
  rcases (show i = 1 ∨ i = 2 ∨ i = 3 by omega) with rfl | rfl | rfl
  · exact w_ixL' h (atI_nat (j := 1) rfl) (k _ (by omega))
  · exact w_ixL' h (atI_nat (j := 2) rfl) (k _ (by omega))
  · exact w_ixL' h (atI_nat (j := 3) rfl) (k _ (by omega))
theorem w_gLstL {K : PySem.W.Frag} {H : Hp} {Q : VK} {p : Addr} {ys : List V} (h : SqL K H p ys) (k : ∀ l H', H l = none → Sm H H' → H' l = some (.lst ys) → Q (.ref l) H') : gLst K [.ref p] H Q := ⟨p, ys, rfl, .inl h, fun l hl => k l _ hl (sm_new hl) upd_same⟩
theorem w_gTplL {K : PySem.W.Frag} {H : Hp} {Q : VK} {p : Addr} {ys : List V} (h : SqL K H p ys) (k : ∀ l H', H l = none → Sm H H' → H' l = some (.tup ys) → Q (.ref l) H') : gTpl K [.ref p] H Q := ⟨p, ys, rfl, .inl ⟨h, fun l hl => k l _ hl (sm_new hl) upd_same⟩⟩
theorem dp_ints {K : PySem.W.Frag} {H : Hp} : ∀ ns : List Int, DpAll K H (ns.map V.int) (ns.map PyData.int)
  | [] => .nil
  | n :: ns => .cons (.int n) (dp_ints ns)
theorem w_neInts {K : PySem.W.Frag} {H : Hp} {Q : VK} {a b : Addr} {ns : List Int} (h1 : SqL K H a (ns.map V.int)) (h2 : SqL K H b (ns.map V.int)) (k : Q (.bl false) H) : gNe K (.ref a) (.ref b) H Q := by
  refine .inr ⟨.list (ns.map .int), .list (ns.map .int), .lst h1 (dp_ints ns), .lst h2 (dp_ints ns), PySem.W.ke_shaped_ints ns, PySem.W.ke_shaped_ints ns, ?_⟩
  have e : PyData.eqv (.list (ns.map .int)) (.list (ns.map .int)) = true := by
    rw [PyData.eqv, PySem.W.ked_eqvAll]
    exact decide_eq_true rfl
  rw [e]
  exact k
local macro_rules | `(tactic| tm_at "rs") => `(tactic| first | ((with_reducible refine' w_gLstL ?h (fun _ _ _ _ _ => ?k)); (case h => tm_at "rsq")) | fail "no")
local macro_rules | `(tactic| tm_at "rs") => `(tactic| first | ((with_reducible refine' w_gTplL ?h (fun _ _ _ _ _ => ?k)); (case h => tm_at "rsq")) | fail "no")
local macro_rules | `(tactic| tm_at "rs") => `(tactic| first | ((with_reducible refine' w_neInts ?h ?i ?k); (case h => tm_at "rsq"); (case i => tm_at "rsq")) | fail "no")
local macro_rules | `(tactic| tm_at "rs") => `(tactic| first | ((with_reducible refine' w_rep1 ?h ?i ?j (fun _ _ _ _ _ => ?k)); (case h => tm_at "rlk"); (case i => omega); (case j => omega)) | fail "no")
local macro_rules | `(tactic| tm_at "rs") => `(tactic| first | ((with_reducible refine' w_addInts ?h ?i ?z (fun _ _ _ _ _ => ?k)); (case h => tm_at "rlk"); (case i => tm_at "rlk"); (case z => (simp only [List.length_append, List.length_replicate]; omega))) | fail "no")
local macro_rules | `(tactic| tm_at "rs") => `(tactic| first | ((with_reducible refine' w_ix4P ?h ?a ?b (fun _ _ => ?k)); (case h => tm_at "rsq"); (case a => omega); (case b => omega)) | fail "no")
local macro_rules | `(tactic| tm_at "rs") => `(tactic| with_reducible refine w_iRv ?_)
/-! terms: nested pairs and triples -/
inductive Tm where
  | num (n : Nat)
  | name (s : Str)
  | op (w : Str) (a b : Tm)
def Tm.dep : Tm → Nat
  | .num _ => 0
  | .name _ => 0
  | .op _ a b => max a.dep b.dep + 1
def Tm.wt : Tm → Nat
  | .num _ => 1
  | .name _ => 1
  | .op _ a b => a.wt + b.wt + 2
theorem Tm.wt_pos : ∀ t : Tm, 1 ≤ t.wt
  | .num _ => Nat.le_refl _
  | .name _ => Nat.le_refl _
  | .op _ a b => by
    show 1 ≤ a.wt + b.wt + 2
    omega
def TmAt (K : PySem.W.Frag) (H : Hp) : Tm → V → Prop
  | .num n, v => ∃ p, v = .ref p ∧ TpK K H p [.str "num", .int (n : Int)]
  | .name s, v => ∃ p, v = .ref p ∧ TpK K H p [.str "name", .str s]
  | .op w a b, v => ∃ p x y, v = .ref p ∧ TpK K H p [.str w, x, y] ∧ TmAt K H a x ∧ TmAt K H b y
theorem TmAt.imp {K : PySem.W.Frag} {H H' : Hp} (h : Tk H H') : ∀ {t : Tm} {v : V}, TmAt K H t v → TmAt K H' t v
  | .num n, v, ⟨p, e, q⟩ => ⟨p, e, q.imp h⟩
  | .name s, v, ⟨p, e, q⟩ => ⟨p, e, q.imp h⟩
  | .op w a b, v, ⟨p, x, y, e, q, r1, r2⟩ => ⟨p, x, y, e, q.imp h, TmAt.imp h r1, TmAt.imp h r2⟩
theorem TmAt.tk {K : PySem.W.Frag} {H H' : Hp} {t : Tm} {v : V} (r : TmAt K H t v) (e : Tk H H') : TmAt K H' t v := r.imp e
theorem TmAt.sm {K : PySem.W.Frag} {H H' : Hp} {t : Tm} {v : V} (r : TmAt K H t v) (e : Sm H H') : TmAt K H' t v := r.imp (Tk.sm e)
theorem TmAt.kpL {K : PySem.W.Frag} {H H' : Hp} {t : Tm} {v : V} {b : Addr} {ys : List V} (r : TmAt K H t v) (hb : H b = some (.lst ys)) (e : Kp b H H') : TmAt K H' t v := r.imp (Tk.kp hb e)
theorem TmAt.kpD {K : PySem.W.Frag} {H H' : Hp} {t : Tm} {v : V} {b : Addr} {ys : List (Key × V)} (r : TmAt K H t v) (hb : H b = some (.dK ys)) (e : Kp b H H') : TmAt K H' t v := r.imp (Tk.kd hb e)
theorem tm_num {K : PySem.W.Frag} {H : Hp} {p : Addr} {n : Nat} (h : H p = some (.tup [.str "num", .int (n : Int)])) : TmAt K H (.num n) (.ref p) := ⟨p, rfl, .inl h⟩
theorem tm_name {K : PySem.W.Frag} {H : Hp} {p : Addr} {s : Str} (h : H p = some (.tup [.str "name", .str s])) : TmAt K H (.name s) (.ref p) := ⟨p, rfl, .inl h⟩
theorem tm_op {K : PySem.W.Frag} {H : Hp} {p : Addr} {w : Str} {x y : V} {a b : Tm} (h : H p = some (.tup [.str w, x, y])) (ha : TmAt K H a x) (hb : TmAt K H b y) : TmAt K H (.op w a b) (.ref p) := ⟨p, x, y, rfl, .inl h, ha, hb⟩
def cm (w : Str) (x y : Nat) : Nat := if w = "plus" then x + y else if w = "times" then x * y else x ^ y
def ev (g : Str → Nat) : Tm → Nat
  | .num n => n
  | .name s => g s
  | .op w a b => cm w (ev g a) (ev g b)
def PwOk (x y n : Nat) : Prop := y * (n - 1) < 1000000 ∧ ∃ r : Nat, x ^ y < 2 ^ r ∧ r ≤ 1000000
theorem pw_of {x y n : Nat} (hx : x < 2 ^ n) (n1 : 1 ≤ n) (h : n * y ≤ 1000000) : PwOk x y n := by
  rcases Nat.eq_zero_or_pos y with h0 | h0
  · subst h0
    refine ⟨by omega, 1, ?_, by decide⟩
    rw [Nat.pow_zero]
    decide
  · refine ⟨?_, n * y, ?_, h⟩
    · rw [Nat.mul_comm] at h
      rw [Nat.mul_sub, Nat.mul_one]
      have := Nat.le_mul_of_pos_right y (show 0 < n by omega)
      omega
    · rw [Nat.pow_mul]
      exact Nat.pow_lt_pow_left hx (by omega)
def CmOk (w : Str) (x y : Nat) : Prop := ∃ n : Nat, 1 ≤ n ∧ x < 2 ^ n ∧ ((w = "plus" ∧ y < 2 ^ n ∧ n + 1 ≤ 1000000) ∨ (w = "times" ∧ ∃ m : Nat, y < 2 ^ m ∧ n + m ≤ 1000000) ∨ (w ≠ "plus" ∧ w ≠ "times" ∧ PwOk x y n))
def TmOk (kvs : List (Key × V)) (g : Str → Nat) : Tm → Prop
  | .num n => ∃ m : Nat, n < 2 ^ m ∧ m ≤ 1000000
  | .name s => valV kvs (.inr s) = some (.int (g s : Nat)) ∧ ∃ m : Nat, g s < 2 ^ m ∧ m ≤ 1000000
  | .op w a b => w ≠ "num" ∧ w ≠ "name" ∧ TmOk kvs g a ∧ TmOk kvs g b ∧ CmOk w (ev g a) (ev g b)
/-! fields of an own object -/
def FldE (K : PySem.W.Frag) (f : Str) (Q : VK) (x : V) (H1 : Hp) : Prop := ∃ (a C dx : Addr) (fs : List (Str × V)) (v : V), x = .ref a ∧ H1 a = some (.ins C dx fs) ∧ Cls K C ∧ NoAttr K C f ∧ fs.lookup f = some v ∧ Q v H1
theorem w_fld {K : PySem.W.Frag} {f : Str} {σ : L2.St} {H : Hp} {Q : VK} {ta : TE} (k : ta σ H fun x H1 => FldE K f Q x H1) : tFld K ta f σ H Q := k
def SFldE (K : PySem.W.Frag) (f : Str) (D : Ends) (σ : L2.St) (x y : V) (H2 : Hp) : Prop := ∃ (a C dx : Addr) (fs : List (Str × V)), x = .ref a ∧ H2 a = some (.ins C dx fs) ∧ Cls K C ∧ NoAttr K C f ∧ fs.length < 1000 ∧ D.nx σ (upd H2 a (.ins C dx (putF f y fs)))
theorem w_sfld {K : PySem.W.Frag} {f : Str} {D : Ends} {σ : L2.St} {H : Hp} {ta tv : TE} (k : tv σ H fun y H1 => ta σ H1 fun x H2 => SFldE K f D σ x y H2) : sFld K ta tv f D σ H := k
theorem w_sfldE {K : PySem.W.Frag} {f : Str} {D : Ends} {σ : L2.St} {y : V} {H : Hp} {a C dx : Addr} {fs : List (Str × V)} (h : H a = some (.ins C dx fs)) (c : Cls K C) (n : NoAttr K C f) (l : fs.length < 1000) (k : ∀ H', Kp a H H' → H' a = some (.ins C dx (putF f y fs)) → NX D σ H') : SFldE K f D σ (.ref a) y H :=
  ⟨a, C, dx, fs, rfl, h, c, n, l, k _ kp_upd upd_same⟩
/-! a dict's items -/
def DgE (Q : VK) (x y : V) (H2 : Hp) : Prop := ∃ a v, x = .ref a ∧ DGet H2 a y (some v) ∧ Q v H2
theorem w_dg {td ty : TE} {σ : L2.St} {H : Hp} {Q : VK} (k : td σ H fun x H1 => ty σ H1 fun y H2 => DgE Q x y H2) : tDGet td ty σ H Q := k
theorem w_dge {H : Hp} {Q : VK} {a : Addr} {s : Str} {v : V} {kvs : List (Key × V)} (h : H a = some (.dK kvs)) (e : valV kvs (.inr s) = some v) (k : Q v H) : DgE Q (.ref a) (.str s) H := ⟨a, v, rfl, .inl ⟨kvs, .inr s, .inl h, rfl, e.symm⟩, k⟩
def DpE (D : Ends) (σ : L2.St) (v x y : V) (H3 : Hp) : Prop := ∃ a H4, x = .ref a ∧ DPut H3 a y v H4 ∧ D.nx σ H4
theorem w_dp {td ty tv : TE} {D : Ends} {σ : L2.St} {H : Hp} (k : tv σ H fun v H1 => td σ H1 fun x H2 => ty σ H2 fun y H3 => DpE D σ v x y H3) : sDPut td ty tv D σ H := k
theorem w_dpe {D : Ends} {σ : L2.St} {H : Hp} {a : Addr} {s : Str} {v : V} {kvs : List (Key × V)} (h : H a = some (.dK kvs)) (l : kvs.length < sizeLine) (k : ∀ H', Kp a H H' → H' a = some (.dK (putK kvs (.inr s) v)) → NX D σ H') : DpE D σ v (.ref a) (.str s) H :=
  ⟨a, _, rfl, .inl ⟨kvs, .inr s, h, rfl, l, rfl⟩, k _ kp_upd upd_same⟩
theorem w_dnew {σ : L2.St} {H : Hp} {Q : VK} (k : ∀ p H', H p = none → Sm H H' → H' p = some (.dK []) → Q (.ref p) H') : tDNewK σ H Q := fun p hp => k p _ hp (sm_new hp) upd_same
def NiE (K : PySem.W.Frag) (w : World) (Q : VK) (y x : V) (H2 : Hp) : Prop := ∃ a z v, x = .ref a ∧ y = .str z ∧ (a == sysModules) = false ∧ KDct K w a z v ∧ Q (.bl false) H2
theorem w_ni {K : PySem.W.Frag} {w : World} {ty td : TE} {σ : L2.St} {H : Hp} {Q : VK} (k : ty σ H fun y H1 => td σ H1 fun x H2 => NiE K w Q y x H2) : tNiK K w ty td σ H Q := k
theorem w_nie {K : PySem.W.Frag} {w : World} {Q : VK} {H : Hp} {a : Addr} {z : Str} {ks : List Str} (d : KDs K w a ks) (hz : z ∈ ks) (k : Q (.bl false) H) : NiE K w Q (.str z) (.ref a) H := by
  obtain ⟨v, hv⟩ := d.2 z hz
  exact ⟨a, z, v, rfl, rfl, d.1, hv, k⟩
/-! an own object made -/
def MkE (C : Addr) (sp : Sp) (Q : VK) (E : XK) (vs : List V) (H1 : Hp) : Prop := ∀ x dx, H1 x = none → H1 dx = none → dx ≠ x → sp (.ref x :: (vs ++ [])) (upd (upd H1 dx (.own x)) x (.ins C dx [])) (fun v H2 => v = .non ∧ Q (.ref x) H2) E
theorem w_make {C : Addr} {sp : Sp} {σ : L2.St} {H : Hp} {Q : VK} {E : XK} {t : TA} (k : t σ H fun vs H1 => MkE C sp Q E vs H1) : tMake C sp [] E t σ H Q := k
/-! the last of a list taken, lists made longer -/
theorem w_bm0 {K : PySem.W.Frag} {T : String} {r : V → List V → Hp → VK → Prop} {to : TE} {σ : L2.St} {H : Hp} {Q : VK} (k : to σ H fun x H1 => tyV K T x H1 ∧ r x [] H1 Q) : tBM0 K T r to σ H Q := k
theorem w_pop {K : PySem.W.Frag} {H : Hp} {Q : VK} {l : Addr} {xs : List V} {y : V} (h : H l = some (.lst (xs ++ [y]))) (k : ∀ H', Kp l H H' → H' l = some (.lst xs) → Q y H') : tyV K "list" (.ref l) H ∧ rPop (.ref l) [] H Q := by
  refine ⟨ty_list h, l, _, y, rfl, rfl, h, ?_, k _ kp_upd ?_⟩
  · rw [List.length_append, List.getElem?_append_right (by show xs.length ≤ xs.length + 1 - 1; omega)]
    show [y][xs.length + 1 - 1 - xs.length]? = some y
    rw [show xs.length + 1 - 1 - xs.length = 0 by omega]
    rfl
  · rw [upd_same, List.dropLast_concat]
theorem w_ext {H : Hp} {Q : VK} {l b : Addr} {xs zs : List V} (h : H l = some (.lst xs)) (hb : H b = some (.lst zs)) (z : xs.length + zs.length ≤ sizeLine) (k : ∀ H', Kp l H H' → H' l = some (.lst (xs ++ zs)) → Q .non H') : rExtend (.ref l) [.ref b] H Q :=
  ⟨l, b, xs, zs, rfl, rfl, h, hb, z, k _ kp_upd upd_same⟩
local macro_rules | `(tactic| tm_at "rs") => `(tactic| first | ((with_reducible refine' w_ext ?h ?i ?z (fun _ _ _ => ?k)); (case h => tm_at "rlk"); (case i => tm_at "rlk"); (case z => tm_at "rsz")) | fail "no")
local macro_rules | `(tactic| tm_at "rs") => `(tactic| first | ((with_reducible refine' w_pop ?h (fun _ _ _ => ?k)); (case h => tm_at "rlk")) | fail "no")
local macro_rules | `(tactic| tm_at "rs") => `(tactic| first | with_reducible refine w_bm0 ?_ | fail "no")
local macro_rules | `(tactic| tm_at "rs") => `(tactic| first | with_reducible refine w_make ?_ | fail "no")
local macro_rules | `(tactic| tm_at "rs") => `(tactic| first | with_reducible refine w_ni ?_ | fail "no")
local macro_rules | `(tactic| tm_at "rs") => `(tactic| first | with_reducible refine w_dnew (fun _ _ _ _ _ => ?_) | fail "no")
local macro_rules | `(tactic| tm_at "rs") => `(tactic| first | ((with_reducible refine' w_dpe ?h ?l (fun _ _ _ => ?k)); (case h => tm_at "rlk"); (case l => tm_at "rsz")) | fail "no")
local macro_rules | `(tactic| tm_at "rs") => `(tactic| first | with_reducible refine w_dp ?_ | fail "no")
local macro_rules | `(tactic| tm_at "rs") => `(tactic| first | ((with_reducible refine' w_dge ?h ?e ?k); (case h => tm_at "rlk"); (case e => assumption)) | fail "no")
local macro_rules | `(tactic| tm_at "rs") => `(tactic| first | with_reducible refine w_dg ?_ | fail "no")
local macro_rules | `(tactic| tm_at "rs") => `(tactic| first | with_reducible refine w_sfld ?_ | fail "no")
local macro_rules | `(tactic| tm_at "rs") => `(tactic| first | with_reducible refine w_fld ?_ | fail "no")
/-! bits of ints that are not negative -/
theorem and_nn {a b : Nat} : Builtin.bitAnd (a : Int) (b : Int) = ((a &&& b : Nat) : Int) := by
  have h := bitAnd_pp (Int.natCast_nonneg a) (Int.natCast_nonneg b)
  rw [Int.toNat_natCast, Int.toNat_natCast] at h
  exact h
theorem and_one {i : Int} (h : 0 ≤ i) : Builtin.bitAnd i 1 = i % 2 := by
  obtain ⟨n, rfl⟩ := Int.eq_ofNat_of_zero_le h
  have e := @and_nn n 1
  rw [show ((1 : Nat) : Int) = 1 from rfl] at e
  rw [e, Nat.and_one_is_mod]
  omega
/-! bits of a number: how many, which -/
/-! choosing numbers -/
def ch : Nat → Nat → Nat
  | _, 0 => 1
  | 0, _ + 1 => 0
  | n + 1, k + 1 => ch n k + ch n (k + 1)
/-! figures of a power -/
theorem valV_has {kvs : List (Key × V)} {k : Key} : (valV kvs k).isSome = true ↔ ∃ p ∈ kvs, p.1 = k := by
  unfold valV
  rw [Option.isSome_map, List.find?_isSome]
  constructor
  · rintro ⟨p, h, e⟩; exact ⟨p, h, of_decide_eq_true e⟩
  · rintro ⟨p, h, e⟩; exact ⟨p, h, decide_eq_true e⟩
theorem putK_has {kvs : List (Key × V)} {k0 k : Key} {v : V} : (∃ p ∈ putK kvs k0 v, p.1 = k) ↔ (k0 = k ∨ ∃ p ∈ kvs, p.1 = k) := by
  unfold putK
  split
  · rename_i h
    obtain ⟨q, hq, eq⟩ := List.any_eq_true.mp h
    have eq := of_decide_eq_true eq
    constructor
    · rintro ⟨p, hp, rfl⟩
      obtain ⟨r, hr, rfl⟩ := List.mem_map.mp hp
      refine .inr ⟨r, hr, ?_⟩
      split <;> rfl
    · rintro (rfl | ⟨p, hp, rfl⟩)
      · exact ⟨_, List.mem_map.mpr ⟨q, hq, rfl⟩, by rw [if_pos eq]; exact eq⟩
      · exact ⟨_, List.mem_map.mpr ⟨p, hp, rfl⟩, by split <;> rfl⟩
  · constructor
    · rintro ⟨p, hp, rfl⟩
      rcases List.mem_append.mp hp with hp | hp
      · exact .inr ⟨p, hp, rfl⟩
      · rw [List.mem_singleton.mp hp]; exact .inl rfl
    · rintro (rfl | ⟨p, hp, rfl⟩)
      · exact ⟨_, List.mem_append.mpr (.inr (List.mem_singleton.mpr rfl)), rfl⟩
      · exact ⟨p, List.mem_append.mpr (.inl hp), rfl⟩
/-! a dict of pairs -/
def DNE (y x : V) (Q : VK) (H2 : Hp) : Prop := ∃ a o, x = .ref a ∧ DGet H2 a y o ∧ Q (.bl (!o.isSome)) H2
theorem w_dni {ty td : TE} {σ : L2.St} {H : Hp} {Q : VK} (k : ty σ H fun y H1 => td σ H1 fun x H2 => DNE y x Q H2) : tDNotIn ty td σ H Q := k
theorem w_dne {H : Hp} {Q : VK} {a : Addr} {i : Int} {kvs : List (Key × V)} (h : H a = some (.dK kvs)) (k : Q (.bl (!(valV kvs (.inl i)).isSome)) H) : DNE (.int i) (.ref a) Q H := ⟨a, _, rfl, .inl ⟨kvs, .inl i, .inl h, rfl, rfl⟩, k⟩
theorem u_one {n : Nat} (h : n + 64 < cLine) : n + 1 < cLine := by omega
theorem w_eqNil {K : PySem.W.Frag} {H : Hp} {Q : VK} {a b : Addr} {l : List Nat} (h1 : SqL K H a (l.map fun t => V.int ((t : Nat) : Int))) (h2 : SqL K H b []) (k : Q (.bl (decide (l = []))) H) : gEq K (.ref a) (.ref b) H Q := by
  have e1 : (l.map fun t => V.int ((t : Nat) : Int)) = (l.map fun t : Nat => ((t : Nat) : Int)).map V.int := by rw [List.map_map]; rfl
  rw [e1] at h1
  refine .inr ⟨.list ((l.map fun t : Nat => ((t : Nat) : Int)).map .int), .list (([] : List Int).map .int), .lst h1 (dp_ints _), .lst h2 .nil, PySem.W.ke_shaped_ints _, PySem.W.ke_shaped_ints _, ?_⟩
  have e : PyData.eqv (.list ((l.map fun t : Nat => ((t : Nat) : Int)).map .int)) (.list (([] : List Int).map .int)) = decide (l = []) := by
    rw [PyData.eqv, PySem.W.ked_eqvAll]
    cases l with
    | nil => rfl
    | cons x l => rfl
  rw [e]
  exact k
local macro_rules | `(tactic| tm_at "rs") => `(tactic| first | ((with_reducible refine' w_eqNil ?h ?i ?k); (case h => tm_at "rsq"); (case i => tm_at "rsq")) | fail "no")
local macro_rules | `(tactic| tm_at "rs") => `(tactic| first | ((with_reducible refine' w_dne ?h ?k); (case h => tm_at "rlk")) | fail "no")
local macro_rules | `(tactic| tm_at "rs") => `(tactic| first | with_reducible refine w_dni ?_ | fail "no")
/-! int(text) and str(int) beyond 640 figures, up to 4300 -/
/-! int(text, 2) of noughts and ones -/
/-! a number's bits as a text -/
def bl : Nat → List Nat
  | 0 => []
  | n + 1 => bl ((n + 1) / 2) ++ [48 + (n + 1) % 2]
termination_by n => n
decreasing_by omega
theorem str_ext {a b : Str} (h : a.cps.toList = b.cps.toList) : a = b := by
  cases a
  cases b
  congr 1
  exact Array.toList_inj.mp h
def sg (c : Nat) : Str := ⟨#[c]⟩
theorem app_tl (a b : Str) : (a ++ b).cps.toList = a.cps.toList ++ b.cps.toList := Array.toList_append
/-! lists of texts -/
def RevE (K : PySem.W.Frag) (Q : VK) (x : V) (H1 : Hp) : Prop := ∃ a xs, x = .ref a ∧ SqL K H1 a xs ∧ ∀ p, H1 p = none → Q (.ref p) (upd H1 p (.lst xs.reverse))
theorem w_revL {K : PySem.W.Frag} {σ : L2.St} {H : Hp} {Q : VK} {te : TE} (k : te σ H fun x H1 => RevE K Q x H1) : tRevL K te σ H Q := k
theorem w_revE {K : PySem.W.Frag} {H : Hp} {Q : VK} {a : Addr} {xs : List V} (h : SqL K H a xs) (k : ∀ p H', H p = none → Sm H H' → H' p = some (.lst xs.reverse) → Q (.ref p) H') : RevE K Q (.ref a) H := ⟨a, xs, rfl, h, fun p hp => k p _ hp (sm_new hp) upd_same⟩
/-! x or y, x a text -/
def OrS (K : PySem.W.Frag) (tb : TE) (σ : L2.St) (Q : VK) (x : V) (H1 : Hp) : Prop := ∃ k, TruV K x H1 k ∧ if k = true then Q x H1 else tb σ H1 Q
theorem w_orT {K : PySem.W.Frag} {ta tb : TE} {σ : L2.St} {H : Hp} {Q : VK} (k : ta σ H fun x H1 => OrS K tb σ Q x H1) : tOrT K ta tb σ H Q := k
/-! a nought, so often -/
local macro_rules | `(tactic| tm_at "rs") => `(tactic| first | with_reducible refine w_orT ?_ | fail "no")
local macro_rules | `(tactic| tm_at "rs") => `(tactic| first | ((with_reducible refine' w_revE ?h (fun _ _ _ _ _ => ?k)); (case h => tm_at "rsq")) | fail "no")
local macro_rules | `(tactic| tm_at "rs") => `(tactic| first | with_reducible refine w_revL ?_ | fail "no")
/-! texts of plain signs -/
def Low (z : Str) : Prop := ∀ c ∈ z.cps.toList, c < 128
theorem Low.app {a b : Str} (h : Low a) (k : Low b) : Low (a ++ b) := fun c hc => by
  rw [app_tl] at hc
  rcases List.mem_append.mp hc with hc | hc
  · exact h c hc
  · exact k c hc
/-! a dict of names and numbers -/
structure DicOk (kvs : List (Key × V)) (ys : List Str) (M : Nat) : Prop where
  nd : (kvs.map (·.1)).Nodup
  ok : ∀ p ∈ kvs, ∃ (s : Str) (n : Nat), p = (Sum.inr s, V.int (n : Nat)) ∧ n < M ∧ Low s
  has : ∀ y ∈ ys, ∃ p ∈ kvs, p.1 = Sum.inr y
def gOf (kvs : List (Key × V)) (s : Str) : Nat := match valV kvs (.inr s) with
  | some (.int i) => i.toNat
  | _ => 0
theorem valV_some {kvs : List (Key × V)} {k : Key} {v : V} (h : valV kvs k = some v) : (k, v) ∈ kvs := by
  unfold valV at h
  cases e : kvs.find? (fun kv => decide (kv.1 = k)) with
  | none => rw [e] at h; cases h
  | some p =>
    rw [e] at h
    cases h
    have h1 := List.find?_some e
    have h2 := List.mem_of_find?_eq_some e
    have h1 := of_decide_eq_true h1
    obtain ⟨a, b⟩ := p
    have h1 : a = k := h1
    subst h1
    exact h2
theorem DicOk.val {kvs : List (Key × V)} {ys : List Str} {M : Nat} (h : DicOk kvs ys M) {s : Str} (e : (valV kvs (.inr s)).isSome = true) : valV kvs (.inr s) = some (.int (gOf kvs s : Nat)) ∧ gOf kvs s < M := by
  obtain ⟨v, hv⟩ := Option.isSome_iff_exists.mp e
  obtain ⟨s', n, e1, hn, _⟩ := h.ok _ (valV_some hv)
  cases e1
  have hg : gOf kvs s = n := by
    unfold gOf
    rw [hv]
    rfl
  rw [hg]
  exact ⟨hv, hn⟩
theorem DicOk.at {kvs : List (Key × V)} {ys : List Str} {M : Nat} (h : DicOk kvs ys M) {y : Str} (hy : y ∈ ys) : valV kvs (.inr y) = some (.int (gOf kvs y : Nat)) ∧ gOf kvs y < M := h.val (valV_has.mpr (h.has y hy))
theorem DicOk.nil {M : Nat} : DicOk [] [] M := ⟨List.nodup_nil, (by intro p hp; cases hp), (by intro y hy; cases hy)⟩
theorem DicOk.up {kvs : List (Key × V)} {ys : List Str} {M M' : Nat} (h : DicOk kvs ys M) (l : M ≤ M') : DicOk kvs ys M' := ⟨h.nd, fun p hp => by
  obtain ⟨s, n, e, hn, hs⟩ := h.ok p hp
  exact ⟨s, n, e, by omega, hs⟩, h.has⟩
theorem DicOk.sub {kvs : List (Key × V)} {ys zs : List Str} {M : Nat} (h : DicOk kvs ys M) (l : ∀ z ∈ zs, z ∈ ys) : DicOk kvs zs M := ⟨h.nd, h.ok, fun z hz => h.has z (l z hz)⟩
theorem putK_len {kvs : List (Key × V)} {k : Key} {v : V} : (putK kvs k v).length ≤ kvs.length + 1 := by
  unfold putK
  split
  · rw [List.length_map]; omega
  · rw [List.length_append]; exact Nat.le_refl _
theorem DicOk.put {kvs : List (Key × V)} {ys : List Str} {M : Nat} (h : DicOk kvs ys M) (s : Str) (hs : Low s) {n : Nat} (hn : n < M) : DicOk (putK kvs (.inr s) (.int (n : Nat))) (ys ++ [s]) M := by
  refine ⟨?_, ?_, fun y hy => ?_⟩
  · unfold putK
    split
    · rw [List.map_map]
      have e : ((fun x : Key × V => x.1) ∘ fun kv : Key × V => if kv.1 = Sum.inr s then (kv.1, V.int (n : Nat)) else kv) = fun x => x.1 := by
        funext x
        show (if x.1 = Sum.inr s then (x.1, V.int (n : Nat)) else x).1 = x.1
        split <;> rfl
      first | (rw [e]; exact h.nd) | (refine cast ?_ h.nd; congr 1; refine List.map_congr_left fun x _ => ?_; show _ = (if _ then _ else _).1; split <;> rfl)
    · rename_i hno
      rw [List.map_append]
      refine List.nodup_append.mpr ⟨h.nd, by simp, fun x hx y hy => ?_⟩
      have hy : y = Sum.inr s := List.mem_singleton.mp hy
      subst hy
      rintro rfl
      obtain ⟨p, hp, e⟩ := List.mem_map.mp hx
      exact hno (List.any_eq_true.mpr ⟨p, hp, decide_eq_true e⟩)
  · intro p hp
    unfold putK at hp
    split at hp
    · obtain ⟨r, hr, rfl⟩ := List.mem_map.mp hp
      split
      · rename_i e
        exact ⟨s, n, by rw [e], hn, hs⟩
      · exact h.ok r hr
    · rcases List.mem_append.mp hp with hp | hp
      · exact h.ok p hp
      · rw [List.mem_singleton.mp hp]
        exact ⟨s, n, rfl, hn, hs⟩
  · rw [putK_has]
    rcases List.mem_append.mp hy with hy | hy
    · exact .inr (h.has y hy)
    · rw [List.mem_singleton.mp hy]
      exact .inl rfl
/-! a dict copied, two dicts compared -/
def gDictD : List V → Hp → VK → Prop := fun xs H Q => ∃ (a : Addr) (kvs : List (Key × V)), xs = [.ref a] ∧ Rd H a (.dK kvs) ∧ ∀ p, H p = none → Q (.ref p) (upd H p (.dK kvs))
theorem call_gDictD {X : Cx} : CallR X (.type "dict") gDictD := call_dictD
theorem w_dictD {H : Hp} {Q : VK} {a : Addr} {kvs : List (Key × V)} (h : H a = some (.dK kvs)) (k : ∀ p H', H p = none → Sm H H' → H' p = some (.dK kvs) → Q (.ref p) H') : gDictD [.ref a] H Q := ⟨a, kvs, rfl, .inl h, fun p hp => k p _ hp (sm_new hp) upd_same⟩
theorem valV_nd : ∀ {kvs : List (Key × V)} {p : Key × V}, (kvs.map (·.1)).Nodup → p ∈ kvs → valV kvs p.1 = some p.2
  | q :: r, p, hn, hp => by
    rw [List.map_cons, List.nodup_cons] at hn
    rcases List.mem_cons.mp hp with rfl | hp
    · exact valV_pos rfl
    · rw [valV_neg (fun e => hn.1 (by rw [e]; exact List.mem_map.mpr ⟨p, hp, rfl⟩))]
      exact valV_nd hn.2 hp
/-! a dict's items as a list, two such lists compared -/
def valD : V → PyData
  | .int i => .int i
  | _ => .none
def keyD : Key → PyData
  | .inl i => .int i
  | .inr s => .str s
def itD (kvs : List (Key × V)) : List PyData := kvs.map fun p => .tuple [keyD p.1, valD p.2]
theorem itD_ok : ∀ {kvs : List (Key × V)}, (∀ p ∈ kvs, ∃ (s : Str) (n : Nat), p = (Sum.inr s, V.int (n : Nat)) ∧ Low s) → PyData.canLayAll0 (itD kvs) = true ∧ PyData.depthAll (itD kvs) ≤ 1
  | [], _ => ⟨rfl, by decide⟩
  | p :: r, h => by
    obtain ⟨h1, h2⟩ := itD_ok (kvs := r) (fun q hq => h q (List.mem_cons_of_mem _ hq))
    obtain ⟨s, n, rfl, hs⟩ := h p List.mem_cons_self
    have ok : PyData.strOk s = true := by
      unfold PyData.strOk
      rw [← Array.all_toList, List.all_eq_true]
      intro c hc
      have := hs c hc
      exact decide_eq_true (by omega)
    refine ⟨?_, ?_⟩
    · show PyData.canLayAll0 (PyData.tuple [PyData.str s, PyData.int n] :: itD r) = true
      simp [PyData.canLayAll0, PyData.canLay0, ok, h1]
    · show PyData.depthAll (PyData.tuple [PyData.str s, PyData.int n] :: itD r) ≤ 1
      simp only [PyData.depthAll, PyData.depth]
      omega
theorem itD_dp {K : PySem.W.Frag} {H : Hp} : ∀ {ts : List Addr} {kvs : List (Key × V)}, (∀ p ∈ kvs, ∃ (s : Str) (n : Nat), p = (Sum.inr s, V.int (n : Nat)) ∧ Low s) → Paired (fun (t : Addr) (q : Key × V) => H t = some (.tup [kV q.1, q.2])) ts kvs → DpAll K H (ts.map V.ref) (itD kvs)
  | _, [], _, .nil => .nil
  | t :: ts, p :: r, h, .cons a b => by
    have ih := itD_dp (K := K) (fun q hq => h q (List.mem_cons_of_mem _ hq)) b
    obtain ⟨s, n, rfl, _⟩ := h p List.mem_cons_self
    exact .cons (.tup (st_of a) (.cons (.str s) (.cons (.int n) .nil))) ih
theorem w_neSame {K : PySem.W.Frag} {H : Hp} {Q : VK} {x y : V} {d : PyData} (h1 : Dp K H x d) (h2 : Dp K H y d) (s : SeqAt.shaped d = true) (k : Q (.bl false) H) : gNe K x y H Q := by
  refine .inr ⟨d, d, h1, h2, s, s, ?_⟩
  rw [PySem.SeqAt.eqv_refl d (SeqAt.canLay_of_shaped s)]
  exact k
theorem itD_shaped {kvs : List (Key × V)} (h : ∀ p ∈ kvs, ∃ (s : Str) (n : Nat), p = (Sum.inr s, V.int (n : Nat)) ∧ Low s) : SeqAt.shaped (.list (itD kvs)) = true := by
  obtain ⟨h1, h2⟩ := itD_ok h
  unfold SeqAt.shaped
  rw [Bool.and_eq_true, decide_eq_true_eq]
  refine ⟨by simp [PyData.canLay0, h1], ?_⟩
  simp only [PyData.depth]
  omega
theorem DicOk.low {kvs : List (Key × V)} {ys : List Str} {M : Nat} (h : DicOk kvs ys M) : ∀ p ∈ kvs, ∃ (s : Str) (n : Nat), p = (Sum.inr s, V.int (n : Nat)) ∧ Low s := fun p hp => by
  obtain ⟨s, n, e, _, hs⟩ := h.ok p hp
  exact ⟨s, n, e, hs⟩
def ItmE (Q : VK) (x : V) (H : Hp) : Prop := LiI.rItemsL x H Q
theorem w_itm {te : TE} {σ : L2.St} {H : Hp} {Q : VK} (k : te σ H fun x H1 => ItmE Q x H1) : LiI.tListItems te σ H Q := k
theorem w_itmE {H : Hp} {Q : VK} {d : Addr} {kvs : List (Key × V)} (h : H d = some (.dK kvs)) (k : ∀ (p : Addr) (ts : List Addr) (H' : Hp), H p = none → Sm H H' → H' p = some (.lst (ts.map V.ref)) → Paired (fun (t : Addr) (q : Key × V) => H' t = some (.tup [kV q.1, q.2])) ts kvs → Q (.ref p) H') : ItmE Q (.ref d) H :=
  ⟨d, kvs, rfl, h, fun H' p ts sm np _ _ g pr => k p ts H' np sm g pr⟩
local macro_rules | `(tactic| tm_at "rs") => `(tactic| first | ((with_reducible refine' w_dictD ?h (fun _ _ _ _ _ => ?k)); (case h => tm_at "rlk")) | fail "no")
local macro_rules | `(tactic| tm_at "rs") => `(tactic| first | ((with_reducible refine' w_itmE ?h (fun _ _ _ _ _ _ _ => ?k)); (case h => tm_at "rlk")) | fail "no")
local macro_rules | `(tactic| tm_at "rs") => `(tactic| first | with_reducible refine w_itm ?_ | fail "no")
/-! lists: slices by a number, pairs in step, sums -/
theorem cut_hi {xs : List V} {j : Int} (h0 : 0 ≤ j) : cutV xs none (some j) = xs.take j.toNat := by
  obtain ⟨k, rfl⟩ := Int.eq_ofNat_of_zero_le h0
  unfold cutV
  rw [HT.sIx_none, HT.sIx_nat, List.drop_zero, Nat.sub_zero, Int.toNat_natCast]
  rcases Nat.le_total k xs.length with h | h
  · rw [Nat.min_eq_left h]
  · rw [Nat.min_eq_right h, List.take_length, List.take_of_length_le h]
theorem cut_lo {xs : List V} {j : Int} (h0 : 0 ≤ j) : cutV xs (some j) none = xs.drop j.toNat := by
  obtain ⟨k, rfl⟩ := Int.eq_ofNat_of_zero_le h0
  unfold cutV
  rw [HT.sIx_none, HT.sIx_nat, Int.toNat_natCast]
  rcases Nat.le_total k xs.length with h | h
  · rw [Nat.min_eq_left h, List.take_of_length_le (by rw [List.length_drop]; exact Nat.le_refl _)]
  · rw [Nat.min_eq_right h, List.drop_length, List.take_nil, List.drop_of_length_le h]
theorem w_repL {H : Hp} {Q : VK} {l : Addr} {xs : List V} {j : Int} (h : H l = some (.lst xs)) (h0 : 0 ≤ j) (h1 : j ≤ 1000) (z : xs.length ≤ 100) (k : ∀ p H', H p = none → Sm H H' → H' p = some (.lst (List.replicate j.toNat xs).flatten) → Q (.ref p) H') : gMul (.ref l) (.int j) H Q :=
  .inr (.inr ⟨l, j, _, rfl, rfl, h, by omega, by omega, sz_of (by
    have := Nat.mul_le_mul z (show j.toNat ≤ 1000 by omega)
    omega), fun p hp => k p _ hp (sm_new hp) upd_same⟩)
/-! both ways of an if lead to one place -/
theorem w_ifJ {t : TT} {A B : TS} {n0 c d : L2.St → Hp → Prop} {r : VK} {σ : L2.St} {H : Hp} (J : L2.St → Hp → Prop) (key : ∀ σ' H', J σ' H' → NX (En n0 r c d) σ' H') (body : ∀ n : L2.St → Hp → Prop, (∀ σ' H', J σ' H' → n σ' H') → tIfS t A B (En n r c d) σ H) : tIfS t A B (En n0 r c d) σ H := body n0 key
/-! rows of a program -/
inductive Rw where
  | up (j : Nat)
  | dn (j : Nat)
  | br (j g : Nat)
  | go (g : Nat)
  | st
deriving DecidableEq
def Rw.vs : Rw → List V
  | .up j => [.str "raise", .int (j : Int)]
  | .dn j => [.str "lower", .int (j : Int)]
  | .br j g => [.str "if", .int (j : Int), .int (g : Int)]
  | .go g => [.str "go", .int (g : Int)]
  | .st => [.str "stop"]
def Rw.ds : Rw → List PyData
  | .up j => [.str "raise", .int (j : Int)]
  | .dn j => [.str "lower", .int (j : Int)]
  | .br j g => [.str "if", .int (j : Int), .int (g : Int)]
  | .go g => [.str "go", .int (g : Int)]
  | .st => [.str "stop"]
theorem Rw.tpl {H : Hp} : ∀ r : Rw, TpL H r.ds r.vs
  | .up _ => tpl_cons tpd_s (tpl_cons tpd_i tpl_nil)
  | .dn _ => tpl_cons tpd_s (tpl_cons tpd_i tpl_nil)
  | .br _ _ => tpl_cons tpd_s (tpl_cons tpd_i (tpl_cons tpd_i tpl_nil))
  | .go _ => tpl_cons tpd_s (tpl_cons tpd_i tpl_nil)
  | .st => tpl_cons tpd_s tpl_nil
def Rw.ok (b n : Nat) : Rw → Prop
  | .up j => j < b
  | .dn j => j < b
  | .br j g => j < b ∧ g < n
  | .go g => g < n
  | .st => True
theorem Rw.ok_up {b n n' : Nat} (l : n ≤ n') : ∀ {r : Rw}, r.ok b n → r.ok b n'
  | .up _, h => h
  | .dn _, h => h
  | .br _ _, h => ⟨h.1, Nat.lt_of_lt_of_le h.2 l⟩
  | .go _, h => Nat.lt_of_lt_of_le h l
  | .st, h => h
def Rw.ends : Rw → Prop
  | .go _ => True
  | .st => True
  | _ => False
def RwAt (H : Hp) (v : V) (r : Rw) : Prop := ∃ p, v = .ref p ∧ H p = some (.tup r.vs)
theorem RwAt.tk {H H' : Hp} {v : V} {r : Rw} (h : RwAt H v r) (e : Tk H H') : RwAt H' v r := by
  obtain ⟨p, rfl, q⟩ := h
  exact ⟨p, rfl, e _ _ q⟩
abbrev RwsAt (H : Hp) (vs : List V) (rs : List Rw) : Prop := Paired (RwAt H) vs rs
theorem RwsAt.tk {H H' : Hp} {vs : List V} {rs : List Rw} (h : RwsAt H vs rs) (e : Tk H H') : RwsAt H' vs rs := paired_mono (fun _ _ q => q.tk e) h
def RwsOk (b n : Nat) (rs : List Rw) : Prop := ∀ r ∈ rs, r.ok b n
theorem RwsOk.up {b n n' : Nat} {rs : List Rw} (h : RwsOk b n rs) (l : n ≤ n') : RwsOk b n' rs := fun r hr => Rw.ok_up l (h r hr)
theorem RwsOk.app {b n : Nat} {rs qs : List Rw} (h : RwsOk b n rs) (k : RwsOk b n qs) : RwsOk b n (rs ++ qs) := fun r hr => by
  rcases List.mem_append.mp hr with hr | hr
  · exact h r hr
  · exact k r hr
theorem RwsOk.nil {b n : Nat} : RwsOk b n [] := fun r hr => by cases hr
theorem RwsOk.one {b n : Nat} {r : Rw} (o : r.ok b n) : RwsOk b n [r] := fun q hq => by
  rw [List.mem_singleton.mp hq]
  exact o
theorem RwsOk.cons {b n : Nat} {r : Rw} {rs : List Rw} (o : r.ok b n) (h : RwsOk b n rs) : RwsOk b n (r :: rs) := fun q hq => by
  rcases List.mem_cons.mp hq with rfl | hq
  · exact o
  · exact h q hq
theorem rw_one {H : Hp} {p : Addr} {r : Rw} (h : H p = some (.tup r.vs)) : RwAt H (.ref p) r := ⟨p, rfl, h⟩
/-- the rows of a program of b boxes -/
structure Prg (b : Nat) (rs : List Rw) : Prop where
  b1 : 1 ≤ b
  b5 : b ≤ 5
  ok : RwsOk b rs.length rs
  len : rs.length ≤ 14
  fin : ∃ us r, rs = us ++ [r] ∧ r.ends
theorem Prg.pos {b : Nat} {rs : List Rw} (h : Prg b rs) : 1 ≤ rs.length := by
  obtain ⟨us, v, q, z⟩ := h.fin
  rw [q, List.length_append]
  exact Nat.le_add_left 1 _
/-- a program's own object -/
def PrC (K : PySem.W.Frag) (C : Addr) : Prop := ClsN K "Program" C ["boxes", "rows"]
def PrgAt (K : PySem.W.Frag) (H : Hp) (v : V) (b : Nat) (rs : List Rw) : Prop := ∃ p C dx t vs, v = .ref p ∧ PrC K C ∧ H p = some (.ins C dx [("boxes", .int (b : Nat)), ("rows", .ref t)]) ∧ H t = some (.tup vs) ∧ RwsAt H vs rs
theorem PrgAt.sm {K : PySem.W.Frag} {H H' : Hp} {v : V} {b : Nat} {rs : List Rw} (h : PrgAt K H v b rs) (e : Sm H H') : PrgAt K H' v b rs := by
  obtain ⟨p, C, dx, t, vs, rfl, c, q, ht, hr⟩ := h
  exact ⟨p, C, dx, t, vs, rfl, c, e _ _ q, e _ _ ht, hr.tk (Tk.sm e)⟩
theorem PrgAt.kp {K : PySem.W.Frag} {H H' : Hp} {v : V} {b : Nat} {rs : List Rw} {a : Addr} {ys : List V} (h : PrgAt K H v b rs) (ha : H a = some (.lst ys)) (e : Kp a H H') : PrgAt K H' v b rs := by
  obtain ⟨p, C, dx, t, vs, rfl, c, q, ht, hr⟩ := h
  exact ⟨p, C, dx, t, vs, rfl, c, e _ _ (by intro z; rw [z, ha] at q; cases q) q, Tk.kp ha e _ _ ht, hr.tk (Tk.kp ha e)⟩
theorem PrgAt.kb {K : PySem.W.Frag} {H H' : Hp} {v : V} {b : Nat} {rs : List Rw} {a : Addr} (h : PrgAt K H v b rs) (ha : BoxAt H a) (e : Kp a H H') : PrgAt K H' v b rs := by
  obtain ⟨x, s, hb, _⟩ := ha
  exact h.kp hb e
local macro_rules | `(tactic| tm_at "rpg") => `(tactic| first | with_reducible assumption | ((refine' PrgAt.sm ?sa ?sb); (case sb => with_reducible assumption); (case sa => tm_at "rpg")) | ((refine' PrgAt.kb ?sa ?sc ?sb); (case sb => with_reducible assumption); (case sc => tm_at "rbx"); (case sa => tm_at "rpg")) | ((refine' PrgAt.kp ?sa ?sc ?sb); (case sb => with_reducible assumption); (case sc => tm_at "rlk"); (case sa => tm_at "rpg")) | fail "no")
theorem w_fBoxes {K : PySem.W.Frag} {H : Hp} {Q : VK} {v : V} {b : Nat} {rs : List Rw} (h : PrgAt K H v b rs) (k : Q (.int (b : Nat)) H) : FldE K "boxes" Q v H := by
  obtain ⟨p, C, dx, t, vs, rfl, c, q, ht, hr⟩ := h
  exact ⟨p, C, dx, _, _, rfl, q, c.cl, c.na _ (by simp), rfl, k⟩
theorem w_fRows {K : PySem.W.Frag} {H : Hp} {Q : VK} {v : V} {b : Nat} {rs : List Rw} (h : PrgAt K H v b rs) (k : ∀ t vs, H t = some (.tup vs) → RwsAt H vs rs → Q (.ref t) H) : FldE K "rows" Q v H := by
  obtain ⟨p, C, dx, t, vs, rfl, c, q, ht, hr⟩ := h
  exact ⟨p, C, dx, _, _, rfl, q, c.cl, c.na _ (by simp), rfl, k t vs ht hr⟩
local macro_rules | `(tactic| tm_at "rs") => `(tactic| first | ((with_reducible refine' w_fRows ?h (fun _ _ _ _ => ?k)); (case h => tm_at "rpg")) | fail "no")
local macro_rules | `(tactic| tm_at "rs") => `(tactic| first | ((with_reducible refine' w_fBoxes ?h ?k); (case h => tm_at "rpg")) | fail "no")
/-! a row's word -/
def Rw.word : Rw → Str
  | .up _ => "raise"
  | .dn _ => "lower"
  | .br _ _ => "if"
  | .go _ => "go"
  | .st => "stop"
theorem Rw.vs_word (r : Rw) : ∃ l, r.vs = .str r.word :: l := by cases r <;> exact ⟨_, rfl⟩
theorem w_ixRow {K : PySem.W.Frag} {H : Hp} {Q : VK} {p : Addr} {vs : List V} {rs : List Rw} {k : Nat} {r : Rw} (h : SqL K H p vs ∨ SqT K H p vs) (hr : RwsAt H vs rs) (hk : rs[k]? = some r) (q : ∀ t, H t = some (.tup r.vs) → Q (.ref t) H) : rIx K (.ref p) (.int (k : Int)) H Q := by
  obtain ⟨v, e1, t, rfl, ht⟩ := paired_getR hr hk
  rcases h with h | h
  · exact w_ixL' h (atI_nat e1) (q t ht)
  · exact w_ixT h (atI_nat e1) (q t ht)
/-! one step -/
def aftr (rs : List Rw) (k : Nat) (cs : List Nat) : Option (Nat × List Nat) :=
  match rs[k]? with
  | some (.up j) => some (k + 1, cs.set j (cs.getD j 0 + 1))
  | some (.dn j) => if cs.getD j 0 = 0 then none else some (k + 1, cs.set j (cs.getD j 0 - 1))
  | some (.br j g) => some (if cs.getD j 0 = 0 then g else k + 1, cs)
  | some (.go g) => some (g, cs)
  | _ => none
theorem aft_up {rs : List Rw} {k j : Nat} {cs : List Nat} (h : rs[k]? = some (.up j)) : aftr rs k cs = some (k + 1, cs.set j (cs.getD j 0 + 1)) := by
  unfold aftr
  rw [h]
theorem aft_dn0 {rs : List Rw} {k j : Nat} {cs : List Nat} (h : rs[k]? = some (.dn j)) (z : cs.getD j 0 = 0) : aftr rs k cs = none := by
  unfold aftr
  rw [h]
  exact if_pos z
theorem aft_dn {rs : List Rw} {k j : Nat} {cs : List Nat} (h : rs[k]? = some (.dn j)) (z : cs.getD j 0 ≠ 0) : aftr rs k cs = some (k + 1, cs.set j (cs.getD j 0 - 1)) := by
  unfold aftr
  rw [h]
  exact if_neg z
theorem aft_br0 {rs : List Rw} {k j g : Nat} {cs : List Nat} (h : rs[k]? = some (.br j g)) (z : cs.getD j 0 = 0) : aftr rs k cs = some (g, cs) := by
  unfold aftr
  rw [h]
  show some (if cs.getD j 0 = 0 then g else k + 1, cs) = _
  rw [if_pos z]
theorem aft_br {rs : List Rw} {k j g : Nat} {cs : List Nat} (h : rs[k]? = some (.br j g)) (z : cs.getD j 0 ≠ 0) : aftr rs k cs = some (k + 1, cs) := by
  unfold aftr
  rw [h]
  show some (if cs.getD j 0 = 0 then g else k + 1, cs) = _
  rw [if_neg z]
theorem aft_go {rs : List Rw} {k g : Nat} {cs : List Nat} (h : rs[k]? = some (.go g)) : aftr rs k cs = some (g, cs) := by
  unfold aftr
  rw [h]
theorem aft_st {rs : List Rw} {k : Nat} {cs : List Nat} (h : rs[k]? = some .st) : aftr rs k cs = none := by
  unfold aftr
  rw [h]
theorem nV_at {cs : List Nat} {j : Nat} (h : j < cs.length) : atI (nV cs) (j : Int) = some (.int (cs.getD j 0 : Nat)) := by
  refine atI_nat (nV_get ?_)
  rw [List.getD_eq_getElem?_getD, List.getElem?_eq_getElem h]
  rfl
theorem set_cut {cs : List Nat} {j : Nat} {c : Nat} (h : j < cs.length) : nV (cs.set j c) = (nV cs).take j ++ (V.int (c : Nat) :: (nV cs).drop (j + 1)) := by
  rw [List.set_eq_take_append_cons_drop, if_pos h, nV_take, nV_drop, nV_app]
  rfl
/-- contents put together anew -/
theorem set_cat {cs : List Nat} {j : Nat} {c : Int} {n : Nat} (h : j < cs.length) (e : c = (n : Nat)) : cutV (nV cs) none (some (j : Int)) ++ [V.int c] ++ cutV (nV cs) (some ((j : Int) + 1)) none = nV (cs.set j n) := by
  rw [cut_hi (by omega), cut_lo (by omega), set_cut h, e, Int.toNat_natCast, show ((j : Int) + 1).toNat = j + 1 by omega, List.append_assoc]
  rfl
theorem cut_len {xs : List V} {lo hi : Option Int} : (cutV xs lo hi).length ≤ xs.length := by
  unfold cutV
  rw [List.length_take, List.length_drop]
  omega
def StdAt (H : Hp) (v : V) (k : Nat) (cs : List Nat) : Prop := ∃ p t, v = .ref p ∧ H p = some (.tup [.int (k : Nat), .ref t]) ∧ H t = some (.tup (nV cs))
theorem StdAt.tk {H H' : Hp} {v : V} {k : Nat} {cs : List Nat} (h : StdAt H v k cs) (e : Tk H H') : StdAt H' v k cs := by
  obtain ⟨p, t, rfl, a, b⟩ := h
  exact ⟨p, t, rfl, e _ _ a, e _ _ b⟩
def OStd (H : Hp) (v : V) : Option (Nat × List Nat) → Prop
  | none => v = .non
  | some (k, cs) => StdAt H v k cs
theorem OStd.tk {H H' : Hp} {v : V} : ∀ {o : Option (Nat × List Nat)}, OStd H v o → Tk H H' → OStd H' v o
  | none, h, _ => h
  | some (_, _), h, e => StdAt.tk h e
/-! the table of words -/
def KgE (K : PySem.W.Frag) (w : World) (Q : VK) (x y : V) (H2 : Hp) : Prop := ∃ a z v, x = .ref a ∧ y = .str z ∧ (a == sysModules) = false ∧ KDct K w a z v ∧ Q v H2
theorem w_kg {K : PySem.W.Frag} {w : World} {td ty : TE} {σ : L2.St} {H : Hp} {Q : VK} (k : td σ H fun x H1 => ty σ H1 fun y H2 => KgE K w Q x y H2) : tKGet K w td ty σ H Q := k
local macro_rules | `(tactic| tm_at "rs") => `(tactic| first | with_reducible refine w_kg ?_ | fail "no")
local macro_rules | `(tactic| tm_at "rrw") => `(tactic| first | with_reducible assumption | ((refine' RwsAt.tk ?sa ?sb); (case sa => with_reducible assumption); (case sb => tm_at "rtk")) | fail "no")
local macro_rules | `(tactic| tm_at "rstd") => `(tactic| first | with_reducible assumption | ((refine' StdAt.tk ?sa ?sb); (case sa => with_reducible assumption); (case sb => tm_at "rtk")) | fail "no")
theorem Rw.word_st (r : Rw) : r.word = Str.ofString "stop" ↔ r = .st := by
  cases r
  · exact ⟨fun h => absurd (show Str.ofString "raise" = Str.ofString "stop" from h) (by decide +kernel), fun h => by cases h⟩
  · exact ⟨fun h => absurd (show Str.ofString "lower" = Str.ofString "stop" from h) (by decide +kernel), fun h => by cases h⟩
  · exact ⟨fun h => absurd (show Str.ofString "if" = Str.ofString "stop" from h) (by decide +kernel), fun h => by cases h⟩
  · exact ⟨fun h => absurd (show Str.ofString "go" = Str.ofString "stop" from h) (by decide +kernel), fun h => by cases h⟩
  · exact ⟨fun _ => rfl, fun _ => rfl⟩
local macro_rules | `(tactic| tm_at "rs") => `(tactic| first | ((with_reducible refine' w_ixRow ?h ?i ?j (fun _ _ => ?k)); (case i => tm_at "rrw"); (case h => first | exact .inl (by tm_at "rsq") | exact .inr (by tm_at "rst")); (case j => assumption)) | fail "no")
theorem TmAt.kpB {K : PySem.W.Frag} {H H' : Hp} {t : Tm} {v : V} {b : Addr} (r : TmAt K H t v) (hb : BoxAt H b) (e : Kp b H H') : TmAt K H' t v := by
  obtain ⟨x, s, hb, _⟩ := hb
  exact r.kpL hb e
theorem w_ixStrs {K : PySem.W.Frag} {H : Hp} {Q : VK} {p : Addr} {ys : List Str} {i : Int} (h : SqL K H p (ys.map V.str)) (i0 : 0 ≤ i) (i1 : i < (ys.length : Int)) (k : ∀ s ∈ ys, Q (.str s) H) : rIx K (.ref p) (.int i) H Q := by
  obtain ⟨j, rfl⟩ := Int.eq_ofNat_of_zero_le i0
  have hj : j < ys.length := by omega
  exact w_ixL h (atI_nat (j := j) (by rw [List.getElem?_map, List.getElem?_eq_getElem hj]; rfl)) (k _ (List.getElem_mem hj))
local macro_rules | `(tactic| tm_at "rtm") => `(tactic| first | with_reducible assumption | ((refine' TmAt.sm ?sa ?sb); (case sb => with_reducible assumption); (case sa => tm_at "rtm")) | ((refine' TmAt.kpB ?sa ?sc ?sb); (case sb => with_reducible assumption); (case sc => tm_at "rbx"); (case sa => tm_at "rtm")) | ((refine' TmAt.kpL ?sa ?sc ?sb); (case sb => with_reducible assumption); (case sc => tm_at "rlk"); (case sa => tm_at "rtm")) | ((refine' TmAt.kpD ?sa ?sc ?sb); (case sb => with_reducible assumption); (case sc => tm_at "rlk"); (case sa => tm_at "rtm")) | fail "no")
/-! repr of lists and tuples, where nothing is being shown -/
theorem w_isiLst {K : PySem.W.Frag} {H : Hp} {Q : VK} {a : Addr} {xs : List V} (h : H a = some (.lst xs)) (k : Q (.bl true) H) : rIsi K [.ref a, .ty "list"] H Q := ⟨_, _, _, _, _, rfl, .ty _, .base (.lst h), kit_ty (by decide +kernel), k⟩
local macro_rules | `(tactic| tm_at "rs") => `(tactic| first | ((with_reducible refine' w_isiLst ?h ?k); (case h => tm_at "rlk")) | fail "no")
/-! data that can be shown: so deep, so many -/
structure ShD (d : PyData) (D N : Nat) : Prop where
  sh : d.showable = true
  nd : d.hasDict = false
  lv : d.leavesShort 600 = true
  dp : d.depth ≤ D
  bk : d.bulk ≤ N
structure ShL (ds : List PyData) (D N : Nat) : Prop where
  sh : PyData.showableAll ds = true
  nd : PyData.hasDictAll ds = false
  lv : PyData.leavesShortAll 600 ds = true
  dp : PyData.depthAll ds ≤ D
  bk : PyData.bulkAll ds ≤ N
theorem ShD.int {n : Int} {D : Nat} (h : n.natAbs < 10 ^ 500) : ShD (.int n) D 0 := by
  have e := int_text_length_le10 (k := 500) (by decide) h
  have hs : (PyData.shown (.int n)).length ≤ 600 := by
    show (Str.ofString (toString n)).length ≤ 600
    rw [PySem.ofString_length]
    omega
  have hl : n.natAbs.log2 < 1920 := PySem.Spec.log2_small (Nat.lt_of_lt_of_le h (by decide +kernel))
  exact ⟨by simp [PyData.showable, hl], by simp [PyData.hasDict], by simp [PyData.leavesShort, hs], by simp [PyData.depth], by simp [PyData.bulk]⟩
theorem ShD.str {x : Str} {D : Nat} (h : ∀ c ∈ x.cps.toList, c < 16 ^ 8) : ShD (.str x) D x.length := by
  refine ⟨by simp [PyData.showable], by simp [PyData.hasDict], ?_, by simp [PyData.depth], by simp [PyData.bulk]; exact Nat.le_refl _⟩
  simp only [PyData.leavesShort, List.all_eq_true, decide_eq_true_eq]
  exact h
theorem ShD.none {D : Nat} : ShD .none D 0 := ⟨rfl, rfl, rfl, by simp [PyData.depth], by simp [PyData.bulk]⟩
theorem ShL.nil {D : Nat} : ShL [] D 0 := ⟨rfl, rfl, rfl, by simp [PyData.depthAll], by simp [PyData.bulkAll]⟩
theorem ShL.cons {d : PyData} {ds : List PyData} {D N M : Nat} (h : ShD d D N) (k : ShL ds D M) : ShL (d :: ds) D (N + 1 + M) :=
  ⟨by simp [PyData.showableAll, h.sh, k.sh], by simp [PyData.hasDictAll, h.nd, k.nd], by simp [PyData.leavesShortAll, h.lv, k.lv], by
    have a := h.dp
    have b := k.dp
    simp only [PyData.depthAll]
    omega, by
    have a := h.bk
    have b := k.bk
    simp only [PyData.bulkAll]
    omega⟩
theorem ShL.up {ds : List PyData} {D D' N N' : Nat} (h : ShL ds D N) (a : D ≤ D') (b : N ≤ N') : ShL ds D' N' := ⟨h.sh, h.nd, h.lv, Nat.le_trans h.dp a, Nat.le_trans h.bk b⟩
theorem ShD.up {d : PyData} {D D' N N' : Nat} (h : ShD d D N) (a : D ≤ D') (b : N ≤ N') : ShD d D' N' := ⟨h.sh, h.nd, h.lv, Nat.le_trans h.dp a, Nat.le_trans h.bk b⟩
theorem ShL.tup {ds : List PyData} {D N : Nat} (h : ShL ds D N) : ShD (.tuple ds) (D + 1) N :=
  ⟨by simp [PyData.showable, h.sh], by simp [PyData.hasDict, h.nd], by simp [PyData.leavesShort, h.lv], by
    have a := h.dp
    simp only [PyData.depth]
    omega, by
    have b := h.bk
    simp only [PyData.bulk]
    omega⟩
theorem ShL.lst {ds : List PyData} {D N : Nat} (h : ShL ds D N) : ShD (.list ds) (D + 1) N :=
  ⟨by simp [PyData.showable, h.sh], by simp [PyData.hasDict, h.nd], by simp [PyData.leavesShort, h.lv], by
    have a := h.dp
    simp only [PyData.depth]
    omega, by
    have b := h.bk
    simp only [PyData.bulk]
    omega⟩
theorem ShL.all {D N : Nat} : ∀ {ds : List PyData}, (∀ d ∈ ds, ShD d D N) → ShL ds D (ds.length * (N + 1))
  | [], _ => by
    rw [List.length_nil, Nat.zero_mul]
    exact ShL.nil
  | d :: ds, h => by
    have a := ShL.cons (h d List.mem_cons_self) (ShL.all (ds := ds) fun x hx => h x (List.mem_cons_of_mem _ hx))
    refine a.up (Nat.le_refl _) ?_
    rw [List.length_cons, Nat.succ_mul]
    omega
theorem ShD.len {d : PyData} {D N : Nat} (h : ShD d D N) (b : N ≤ 27000) : d.shown.length ≤ sizeLine := by
  have e := PyData.shown_le_bulk 600 (by decide) d h.lv
  have e2 : (600 + 2) * d.bulk ≤ 602 * 27000 := Nat.mul_le_mul_left _ (Nat.le_trans h.bk b)
  have e3 : 602 * 27000 + 600 ≤ sizeLine := by decide
  omega
/-! stands shown -/
def oD : Option (Nat × List Nat) → PyData
  | none => .none
  | some (k, cs) => .tuple [.int (k : Nat), .tuple (nD cs)]
theorem StdAt.tpd {H : Hp} {v : V} {k : Nat} {cs : List Nat} (h : StdAt H v k cs) : TpD H (oD (some (k, cs))) v := by
  obtain ⟨p, t, rfl, a, b⟩ := h
  exact tpd_t a (tpl_cons tpd_i (tpl_cons (tpd_t b (tpl_nat cs)) tpl_nil))
/-- where a step leads -/
theorem aft_ok {b : Nat} {rs : List Rw} {k n M : Nat} {cs es : List Nat} (hg : Prg b rs) (hc : cs.length = b) (hM : ∀ c ∈ cs, c ≤ M) (e : aftr rs k cs = some (n, es)) : n ≤ 14 ∧ es.length = b ∧ (∀ c ∈ es, c ≤ M + 1) ∧ n ≤ rs.length := by
  have h14 := hg.len
  cases hk : rs[k]? with
  | none =>
    unfold aftr at e
    rw [hk] at e
    cases e
  | some r =>
    have hro := hg.ok r (List.mem_of_getElem? hk)
    have hkl : k < rs.length := (List.getElem?_eq_some_iff.mp hk).1
    have up : ∀ c ∈ cs, c ≤ M + 1 := fun c hc => Nat.le_succ_of_le (hM c hc)
    have hgd : ∀ j, cs.getD j 0 ≤ M := fun j => by
      rw [List.getD_eq_getElem?_getD]
      cases h : cs[j]? with
      | none => exact Nat.zero_le _
      | some x => exact hM x (List.mem_of_getElem? h)
    cases r with
    | up j =>
      rw [aft_up hk] at e
      cases e
      refine ⟨by omega, by rw [List.length_set]; exact hc, fun c hc => ?_, by omega⟩
      rcases List.mem_or_eq_of_mem_set hc with h | h
      · exact up c h
      · have := hgd j
        omega
    | dn j =>
      by_cases z : cs.getD j 0 = 0
      · rw [aft_dn0 hk z] at e
        cases e
      · rw [aft_dn hk z] at e
        cases e
        refine ⟨by omega, by rw [List.length_set]; exact hc, fun c hc => ?_, by omega⟩
        rcases List.mem_or_eq_of_mem_set hc with h | h
        · exact up c h
        · have := hgd j
          omega
    | br j g =>
      have hg2 : g < rs.length := hro.2
      by_cases z : cs.getD j 0 = 0
      · rw [aft_br0 hk z] at e
        cases e
        exact ⟨by omega, hc, up, by omega⟩
      · rw [aft_br hk z] at e
        cases e
        exact ⟨by omega, hc, up, by omega⟩
    | go g =>
      have hg2 : g < rs.length := hro
      rw [aft_go hk] at e
      cases e
      exact ⟨by omega, hc, up, by omega⟩
    | st =>
      rw [aft_st hk] at e
      cases e
/-! runs -/
def runL (rs : List Rw) : Nat → Nat × List Nat → List (Nat × List Nat)
  | 0, s => [s]
  | n + 1, s => match aftr rs s.1 s.2 with
    | none => [s]
    | some t => s :: runL rs n t
theorem runL_0 (rs : List Rw) (s : Nat × List Nat) : runL rs 0 s = [s] := rfl
theorem runL_no {rs : List Rw} {s : Nat × List Nat} (h : aftr rs s.1 s.2 = none) (n : Nat) : runL rs n s = [s] := by
  cases n with
  | zero => rfl
  | succ n =>
    unfold runL
    rw [h]
theorem runL_go {rs : List Rw} {s t : Nat × List Nat} (h : aftr rs s.1 s.2 = some t) (n : Nat) : runL rs (n + 1) s = s :: runL rs n t := by
  rw [runL]
  rw [h]
theorem runL_head (rs : List Rw) (n : Nat) (s : Nat × List Nat) : ∃ l, runL rs n s = s :: l := by
  cases n with
  | zero => exact ⟨[], rfl⟩
  | succ n =>
    cases h : aftr rs s.1 s.2 with
    | none => exact ⟨[], runL_no h _⟩
    | some t => exact ⟨_, runL_go h n⟩
theorem runL_len (rs : List Rw) : ∀ (n : Nat) (s : Nat × List Nat), 1 ≤ (runL rs n s).length ∧ (runL rs n s).length ≤ n + 1
  | 0, s => ⟨Nat.le_refl _, Nat.le_refl _⟩
  | n + 1, s => by
    cases h : aftr rs s.1 s.2 with
    | none =>
      rw [runL_no h]
      exact ⟨Nat.le_refl _, Nat.le_add_left _ _⟩
    | some t =>
      rw [runL_go h, List.length_cons]
      have := (runL_len rs n t).2
      omega
/-- the word of a run by its last stand -/
def wordR (rs : List Rw) (s : Nat × List Nat) : Str := if rs[s.1]? = some .st then "stopped" else if aftr rs s.1 s.2 = none then "stuck" else "going"
/-- what a stand of a run keeps -/
structure SOk (b : Nat) (rs : List Rw) (M : Nat) (s : Nat × List Nat) : Prop where
  k : s.1 < rs.length
  l : s.2.length = b
  c : ∀ c ∈ s.2, c ≤ M
theorem aft_in {b : Nat} {rs : List Rw} {k : Nat} {cs : List Nat} {t : Nat × List Nat} (hg : Prg b rs) (e : aftr rs k cs = some t) : t.1 < rs.length := by
  cases hk : rs[k]? with
  | none =>
    unfold aftr at e
    rw [hk] at e
    cases e
  | some r =>
    have hro := hg.ok r (List.mem_of_getElem? hk)
    obtain ⟨us, r0, hfin, hend⟩ := hg.fin
    have hlen : rs.length = us.length + 1 := by rw [hfin, List.length_append]; rfl
    have hkl : k < rs.length := (List.getElem?_eq_some_iff.mp hk).1
    have nl : ¬ r.ends → k + 1 < rs.length := fun h => by
      apply Classical.byContradiction
      intro h2
      have : k = us.length := by omega
      rw [hfin, this, List.getElem?_append_right (Nat.le_refl _), Nat.sub_self] at hk
      cases hk
      exact h hend
    cases r with
    | up j =>
      rw [aft_up hk] at e
      cases e
      exact nl (fun h => h)
    | dn j =>
      by_cases z : cs.getD j 0 = 0
      · rw [aft_dn0 hk z] at e
        cases e
      · rw [aft_dn hk z] at e
        cases e
        exact nl (fun h => h)
    | br j g =>
      by_cases z : cs.getD j 0 = 0
      · rw [aft_br0 hk z] at e
        cases e
        exact hro.2
      · rw [aft_br hk z] at e
        cases e
        exact nl (fun h => h)
    | go g =>
      rw [aft_go hk] at e
      cases e
      exact hro
    | st =>
      rw [aft_st hk] at e
      cases e
theorem SOk.next {b : Nat} {rs : List Rw} {M : Nat} {s t : Nat × List Nat} (hg : Prg b rs) (h : SOk b rs M s) (e : aftr rs s.1 s.2 = some t) : SOk b rs (M + 1) t := by
  obtain ⟨n, es⟩ := t
  obtain ⟨_, e2, e3, _⟩ := aft_ok hg h.l h.c e
  exact ⟨aft_in hg e, e2, e3⟩
theorem SOk.up {b : Nat} {rs : List Rw} {M N : Nat} {s : Nat × List Nat} (h : SOk b rs M s) (l : M ≤ N) : SOk b rs N s := ⟨h.k, h.l, fun c hc => Nat.le_trans (h.c c hc) l⟩
theorem runL_ok {b : Nat} {rs : List Rw} (hg : Prg b rs) : ∀ {n M : Nat} {s : Nat × List Nat}, SOk b rs M s → ∀ t ∈ runL rs n s, SOk b rs (M + n) t
  | 0, M, s, h, t, ht => by
    rw [runL_0] at ht
    rw [List.mem_singleton.mp ht]
    exact h
  | n + 1, M, s, h, t, ht => by
    cases e : aftr rs s.1 s.2 with
    | none =>
      rw [runL_no e] at ht
      rw [List.mem_singleton.mp ht]
      exact h.up (Nat.le_add_right _ _)
    | some u =>
      rw [runL_go e] at ht
      rcases List.mem_cons.mp ht with rfl | ht
      · exact h.up (Nat.le_add_right _ _)
      · exact (runL_ok hg (h.next hg e) t ht).up (by omega)
theorem SOk.start {b : Nat} {rs : List Rw} {M : Nat} {bs : List Nat} (hg : Prg b rs) (hl : bs.length = b) (hc : ∀ c ∈ bs, c ≤ M) : SOk b rs M (0, bs) := ⟨hg.pos, hl, hc⟩
/-- a list of stands as told -/
abbrev SdL (H : Hp) (xs : List V) (ss : List (Nat × List Nat)) : Prop := Paired (fun x s => StdAt H x s.1 s.2) xs ss
theorem SdL.tk {H H' : Hp} {xs : List V} {ss : List (Nat × List Nat)} (h : SdL H xs ss) (e : Tk H H') : SdL H' xs ss := paired_mono (fun _ _ q => q.tk e) h
def sD (ss : List (Nat × List Nat)) : List PyData := ss.map fun s => oD (some s)
theorem SdL.dp {K : PySem.W.Frag} {H : Hp} : ∀ {xs : List V} {ss : List (Nat × List Nat)}, SdL H xs ss → DpAll K H xs (sD ss)
  | _, _, .nil => .nil
  | _, _, .cons a b => .cons (TpD.dp _ _ a.tpd) (SdL.dp b)
/-- a list's or a tuple's contents as a tuple -/
theorem w_gTpl2 {K : PySem.W.Frag} {H : Hp} {Q : VK} {p : Addr} {ys : List V} (h : H p = some (.lst ys) ∨ H p = some (.tup ys)) (k : ∀ l H', Sm H H' → H' l = some (.tup ys) → Q (.ref l) H') : gTpl K [.ref p] H Q := by
  rcases h with h | h
  · exact w_gTplL (sq_of h) fun l H' _ s g => k l H' s g
  · exact ⟨p, ys, rfl, .inr ⟨st_of h, k p H (Same.refl _) h⟩⟩
theorem wordR_st {rs : List Rw} {s : Nat × List Nat} (h : rs[s.1]? = some .st) : wordR rs s = "stopped" := if_pos h
theorem wordR_stuck {rs : List Rw} {s : Nat × List Nat} {r : Rw} (h : rs[s.1]? = some r) (n : r ≠ .st) (e : aftr rs s.1 s.2 = none) : wordR rs s = "stuck" := by
  unfold wordR
  rw [if_neg (by rw [h]; exact fun z => n (Option.some.inj z)), if_pos e]
theorem wordR_going {rs : List Rw} {s t : Nat × List Nat} (e : aftr rs s.1 s.2 = some t) : wordR rs s = "going" := by
  unfold wordR
  rw [if_neg (fun z => by rw [aft_st z] at e; cases e), if_neg (by rw [e]; exact fun z => nomatch z)]
theorem runL_more {rs : List Rw} {M : Nat} {bs : List Nat} {pre : List (Nat × List Nat)} {last t : Nat × List Nat} (h : runL rs M (0, bs) = pre ++ runL rs (M - pre.length) last) (e : aftr rs last.1 last.2 = some t) (l : pre.length + 1 ≤ M) : runL rs M (0, bs) = (pre ++ [last]) ++ runL rs (M - (pre ++ [last]).length) t := by
  have e1 : M - pre.length = (M - (pre ++ [last]).length) + 1 := by rw [List.length_append]; show _ = M - (pre.length + 1) + 1; omega
  rw [h, e1, runL_go e, List.append_assoc]
  rfl
theorem runL_end {rs : List Rw} {M : Nat} {bs : List Nat} {pre : List (Nat × List Nat)} {last : Nat × List Nat} (h : runL rs M (0, bs) = pre ++ runL rs (M - pre.length) last) (e : aftr rs last.1 last.2 = none ∨ M ≤ pre.length) : runL rs M (0, bs) = pre ++ [last] := by
  rw [h]
  rcases e with e | e
  · rw [runL_no e]
  · rw [show M - pre.length = 0 by omega, runL_0]
theorem bnd_ex : ∀ cs : List Nat, ∃ M, ∀ c ∈ cs, c ≤ M
  | [] => ⟨0, fun c hc => by cases hc⟩
  | x :: cs => by
    obtain ⟨M, hM⟩ := bnd_ex cs
    refine ⟨max x M, fun c hc => ?_⟩
    rcases List.mem_cons.mp hc with rfl | hc
    · omega
    · have := hM c hc
      omega
theorem aft_len {b : Nat} {rs : List Rw} {k : Nat} {cs : List Nat} {t : Nat × List Nat} (hg : Prg b rs) (hc : cs.length = b) (e : aftr rs k cs = some t) : t.2.length = b := by
  obtain ⟨M, hM⟩ := bnd_ex cs
  obtain ⟨n, es⟩ := t
  exact (aft_ok hg hc hM e).2.1
/-! the greatest, the sum, of a list or a tuple of numbers -/
def mxN (l : List Nat) : Nat := l.foldl max 0
theorem fold_max (l : List Nat) : ∀ a : Nat, l.foldl max a = max a (mxN l) := by
  unfold mxN
  induction l with
  | nil => intro a; simp
  | cons x l ih =>
    intro a
    rw [List.foldl_cons, List.foldl_cons, ih, ih (max 0 x)]
    omega
theorem mxN_cons (x : Nat) (l : List Nat) : mxN (x :: l) = max x (mxN l) := by
  show l.foldl max (max 0 x) = _
  rw [fold_max]
  omega
theorem mxN_le : ∀ {l : List Nat} {x : Nat}, x ∈ l → x ≤ mxN l
  | y :: l, x, h => by
    rw [mxN_cons]
    rcases List.mem_cons.mp h with rfl | h
    · omega
    · have := mxN_le h
      omega
theorem mxN_mem : ∀ {l : List Nat}, l ≠ [] → mxN l ∈ l
  | [x], _ => by
    have : mxN [x] = x := by rw [mxN_cons]; show max x 0 = x; omega
    rw [this]
    exact List.mem_cons_self
  | x :: y :: l, _ => by
    have ih := mxN_mem (l := y :: l) (by simp)
    rw [mxN_cons]
    by_cases h : mxN (y :: l) ≤ x
    · rw [Nat.max_eq_left h]; exact List.mem_cons_self
    · rw [Nat.max_eq_right (by omega)]; exact List.mem_cons_of_mem _ ih
theorem mxN_bd {l : List Nat} {M : Nat} (h : ∀ x ∈ l, x ≤ M) : mxN l ≤ M := by
  cases l with
  | nil => exact Nat.zero_le _
  | cons x l => exact h _ (mxN_mem (by simp))
theorem mxI_fold : ∀ (l : List Nat) (a : Nat), (l.map fun n => ((n : Nat) : Int)).foldl max ((a : Nat) : Int) = ((l.foldl max a : Nat) : Int)
  | [], _ => rfl
  | x :: l, a => by
    rw [List.map_cons, List.foldl_cons, List.foldl_cons, ← mxI_fold l (max a x)]
    congr 1
    omega
def rMxN (K : PySem.W.Frag) : List V → Hp → VK → Prop := fun vs H Q => ∃ a l, vs = [V.ref a] ∧ (SqL K H a (nV l) ∨ SqT K H a (nV l)) ∧ l ≠ [] ∧ Q (.int (mxN l : Nat)) H
theorem cr_mxN {X : Cx} {K : PySem.W.Frag} (hK : X.K = K) (hc : X.calm = true) (hu : X.A.units + 64 < cLine) : CallR X (.builtin "max") (rMxN K) := by
  subst hK
  intro pins s σ H vs us Q I r h
  obtain ⟨a, l, rfl, hs, hne, q⟩ := h
  obtain ⟨u, rfl, ru⟩ := vals1 r
  cases ru
  rcases hs with hs | hs
  · obtain ⟨its, rv, hl, _⟩ := I.list hs
    have hi := rv
    rw [show nV l = (l.map fun n => ((n : Nat) : Int)).map V.int by unfold nV; rw [List.map_map]; rfl] at hi
    refine max_raw (I.ok.hd hc) hl.isList hi.ints (by rw [List.length_map]; exact List.length_pos_iff.mpr hne) fun h' tk m t' hk h1 h2 => ?_
    obtain ⟨n, hn, rfl⟩ := List.mem_map.mp h1
    have e : n = mxN l := by
      have a := mxN_le hn
      have b := h2 _ (List.mem_map.mpr ⟨_, mxN_mem hne, rfl⟩)
      omega
    subst e
    exact ⟨.int _, H, I.kept hk, ⟨_, rfl⟩, q⟩
  · obtain ⟨its, rv, p, z⟩ := I.tuple hs
    cases l with
    | nil => exact absurd rfl hne
    | cons x l =>
      obtain ⟨as, hr⟩ := Dp.readsAll I (nD (x :: l)) (nV (x :: l)) its (TpL.dp _ _ (tpl_nat (H := H) _)) rv
      have hd : PyData.depthAll (nD (x :: l)) = 0 := by
        have : ∀ m : List Nat, PyData.depthAll (nD m) = 0 := by
          intro m
          induction m with
          | nil => rfl
          | cons y m ih => show PyData.depthAll (PyData.int y :: nD m) = 0; simp only [PyData.depthAll, PyData.depth, ih]; rfl
        exact this _
      refine PySem.W.max_tuple_data (I.ok.hd hc) p hr ⟨fun y hy z hz => ?_, fun y hy e => ?_⟩ ?_ fun i v h' tk bs hv rd hk => ?_
      · obtain ⟨n, _, rfl⟩ := List.mem_map.mp (show y ∈ (x :: l).map (fun t : Nat => PyData.int (t : Nat)) from hy)
        obtain ⟨m, _, rfl⟩ := List.mem_map.mp (show z ∈ (x :: l).map (fun t : Nat => PyData.int (t : Nat)) from hz)
        rfl
      · obtain ⟨n, _, rfl⟩ := List.mem_map.mp (show y ∈ (x :: l).map (fun t : Nat => PyData.int (t : Nat)) from hy)
        cases e
      · show X.A.units + 1 + PyData.depthAll (nD (x :: l)) < cLine
        rw [hd]
        omega
      · have e : PySem.W.maxD (.int ((x : Nat) : Int)) ((l.map fun n => ((n : Nat) : Int)).map .int) = .int ((mxN (x :: l) : Nat) : Int) := by
          rw [PySem.W.maxD_ints, mxI_fold, fold_max, mxN_cons]
        have e2 : nD l = (l.map fun n => ((n : Nat) : Int)).map .int := by
          unfold nD
          rw [List.map_map]
          rfl
        have rd : Reads h' v (PySem.W.maxD (.int ((x : Nat) : Int)) (nD l)) bs := rd
        rw [e2, e] at rd
        obtain ⟨t, rfl⟩ : ∃ t, v = .int ((mxN (x :: l) : Nat) : Int) t := by
          cases rd
          exact ⟨_, rfl⟩
        exact ⟨.int _, H, Inv.kept (t' := tk) I hk, ⟨_, rfl⟩, q⟩
def smN : List Nat → Nat
  | [] => 0
  | x :: l => x + smN l
theorem smN_I : ∀ l : List Nat, (l.map fun n => ((n : Nat) : Int)).sum = ((smN l : Nat) : Int)
  | [] => rfl
  | x :: l => by
    rw [List.map_cons, List.sum_cons, smN_I l]
    rfl
theorem smN_bd {M : Nat} : ∀ {l : List Nat}, (∀ x ∈ l, x ≤ M) → smN l ≤ l.length * M
  | [], _ => Nat.zero_le _
  | x :: l, h => by
    have a := h x List.mem_cons_self
    have b := smN_bd (l := l) fun y hy => h y (List.mem_cons_of_mem _ hy)
    show x + smN l ≤ (l.length + 1) * M
    rw [Nat.succ_mul]
    omega
def rSmN (K : PySem.W.Frag) : List V → Hp → VK → Prop := fun vs H Q => ∃ a l, vs = [V.ref a] ∧ (SqL K H a (nV l) ∨ SqT K H a (nV l)) ∧ Q (.int (smN l : Nat)) H
theorem cr_smN {X : Cx} {K : PySem.W.Frag} (hK : X.K = K) (hc : X.calm = true) : CallR X (.builtin "sum") (rSmN K) := by
  subst hK
  intro pins s σ H vs us Q I r h
  obtain ⟨a, l, rfl, hs, q⟩ := h
  obtain ⟨u, rfl, ru⟩ := vals1 r
  cases ru
  have en : nV l = (l.map fun n => ((n : Nat) : Int)).map V.int := by unfold nV; rw [List.map_map]; rfl
  rcases hs with hs | hs
  · obtain ⟨its, rv, hl, _⟩ := I.list hs
    rw [en] at rv
    refine sum_raw (I.ok.hd hc) hl.isList rv.ints fun h' tk t' hk => ?_
    rw [smN_I]
    exact ⟨.int _, H, I.kept hk, ⟨_, rfl⟩, q⟩
  · obtain ⟨its, rv, p, z⟩ := I.tuple hs
    rw [en] at rv
    have hi := rv.ints
    obtain ⟨xs, hx⟩ := hi.allInts.items
    have hn : numsOf its.toArray.toList = l.map fun n => ((n : Nat) : Int) := by rw [show its.toArray.toList = its from rfl, hi.numsOf]
    rw [hx] at p hn
    rw [nums_intItems] at hn
    refine PySem.W.ktm_sumG (I.ok.hd hc) p fun h' tk t' hk => ?_
    rw [preSum_eq, List.take_of_length_le (by simp), hn, smN_I]
    exact ⟨.int _, H, Inv.kept (t' := tk) I hk, ⟨_, rfl⟩, q⟩
theorem w_mxL {K : PySem.W.Frag} {H : Hp} {Q : VK} {a : Addr} {l : List Nat} (h : SqL K H a (nV l)) (n : l ≠ []) (k : Q (.int (mxN l : Nat)) H) : rMxN K [.ref a] H Q := ⟨a, l, rfl, .inl h, n, k⟩
theorem w_mxT {K : PySem.W.Frag} {H : Hp} {Q : VK} {a : Addr} {l : List Nat} (h : SqT K H a (nV l)) (n : l ≠ []) (k : Q (.int (mxN l : Nat)) H) : rMxN K [.ref a] H Q := ⟨a, l, rfl, .inr h, n, k⟩
theorem w_smL {K : PySem.W.Frag} {H : Hp} {Q : VK} {a : Addr} {l : List Nat} (h : SqL K H a (nV l)) (k : Q (.int (smN l : Nat)) H) : rSmN K [.ref a] H Q := ⟨a, l, rfl, .inl h, k⟩
/-! the least c -/
def btsN (x : Nat) : Nat := if x = 0 then 0 else x.log2 + 1
theorem btsN_lt {x k : Nat} : 2 ^ k ≤ x ↔ k < btsN x := by
  unfold btsN
  by_cases h : x = 0
  · subst h
    have := Nat.two_pow_pos k
    simp only [if_true]
    omega
  · rw [if_neg h, ← Nat.le_log2 h]
    omega
def cL (G n : Nat) : Nat := max (btsN G + 1) (btsN n)
theorem cL_pos {G n : Nat} : 1 ≤ cL G n := by unfold cL; omega
theorem cL_lt {G n c : Nat} (h : 1 ≤ c) : (2 ^ (c - 1) ≤ G ∨ 2 ^ c ≤ n) ↔ c < cL G n := by
  rw [btsN_lt, btsN_lt]
  unfold cL
  omega
theorem btsN_le {x k : Nat} (h : x < 2 ^ k) : btsN x ≤ k := by
  have := btsN_lt (x := x) (k := k)
  omega
/-- what a run's stands have at most -/
def grt (ss : List (Nat × List Nat)) : Nat := mxN (smN ((ss.map (·.2)).headD []) :: ss.map fun s => mxN s.2)
def SdBd (ss : List (Nat × List Nat)) (M : Nat) : Prop := ∀ s ∈ ss, s.2 ≠ [] ∧ s.2.length ≤ 5 ∧ ∀ c ∈ s.2, c ≤ M
theorem grt_bd {ss : List (Nat × List Nat)} {M : Nat} (h : SdBd ss M) (hM : 1 ≤ M) : grt ss ≤ 5 * M := by
  refine mxN_bd fun x hx => ?_
  rcases List.mem_cons.mp hx with rfl | hx
  · cases ss with
    | nil => exact Nat.zero_le _
    | cons s ss =>
      obtain ⟨_, b, c⟩ := h s List.mem_cons_self
      have := smN_bd c
      have e : s.2.length * M ≤ 5 * M := Nat.mul_le_mul_right _ b
      show smN s.2 ≤ _
      omega
  · obtain ⟨s, hs, rfl⟩ := List.mem_map.mp hx
    have := mxN_bd (h s hs).2.2
    omega
/-! runs that come to a stop -/
theorem word_stp {rs : List Rw} {s : Nat × List Nat} : wordR rs s = Str.ofString "stopped" ↔ rs[s.1]? = some .st := by
  unfold wordR
  by_cases h : rs[s.1]? = some .st
  · rw [if_pos h]
    exact ⟨fun _ => h, fun _ => rfl⟩
  · rw [if_neg h]
    refine ⟨fun e => ?_, fun e => absurd e h⟩
    split at e
    · exact absurd (show Str.ofString "stuck" = Str.ofString "stopped" from e) (by decide +kernel)
    · exact absurd (show Str.ofString "going" = Str.ofString "stopped" from e) (by decide +kernel)
theorem snoc_one {α : Type} {s last : α} {pre : List α} (h : [s] = pre ++ [last]) : pre = [] ∧ s = last := by
  cases pre with
  | nil => exact ⟨rfl, by cases h; rfl⟩
  | cons a pre =>
    have := congrArg List.length h
    rw [List.length_append] at this
    have : 1 = pre.length + 1 + 1 := this
    omega
theorem runL_stable {rs : List Rw} : ∀ {M : Nat} {s last : Nat × List Nat} {pre : List (Nat × List Nat)} {N : Nat}, runL rs M s = pre ++ [last] → aftr rs last.1 last.2 = none → pre.length ≤ N → runL rs N s = pre ++ [last]
  | 0, s, last, pre, N, h, e, l => by
    rw [runL_0] at h
    obtain ⟨rfl, rfl⟩ := snoc_one h
    exact runL_no e N
  | M + 1, s, last, pre, N, h, e, l => by
    cases ea : aftr rs s.1 s.2 with
    | none =>
      rw [runL_no ea] at h
      obtain ⟨rfl, rfl⟩ := snoc_one h
      exact runL_no e N
    | some t =>
      rw [runL_go ea] at h
      cases pre with
      | nil =>
        obtain ⟨u, hu⟩ := runL_head rs M t
        rw [hu] at h
        cases h
      | cons a pre =>
        injection h with h1 h2
        subst h1
        cases N with
        | zero => exact absurd l (by simp)
        | succ N =>
          rw [runL_go ea, runL_stable (N := N) h2 e (by simpa using l)]
          rfl
/-- ss is the whole run from bs, which stops -/
structure StopsR (rs : List Rw) (bs : List Nat) (ss : List (Nat × List Nat)) : Prop where
  ex : ∃ pre last, ss = pre ++ [last] ∧ rs[last.1]? = some .st ∧ ∀ N, pre.length ≤ N → runL rs N (0, bs) = ss
theorem StopsR.of {rs : List Rw} {bs : List Nat} {M : Nat} {pre : List (Nat × List Nat)} {last : Nat × List Nat} (h : runL rs M (0, bs) = pre ++ [last]) (e : rs[last.1]? = some .st) : StopsR rs bs (pre ++ [last]) :=
  ⟨pre, last, rfl, e, fun N l => runL_stable h (aft_st e) l⟩
theorem StopsR.run {rs : List Rw} {bs : List Nat} {ss : List (Nat × List Nat)} (h : StopsR rs bs ss) {N : Nat} (l : ss.length ≤ N + 1) : runL rs N (0, bs) = ss := by
  obtain ⟨pre, last, e, _, r⟩ := h.ex
  refine r N ?_
  rw [e, List.length_append] at l
  have : pre.length + 1 ≤ N + 1 := l
  omega
theorem StopsR.head {rs : List Rw} {bs : List Nat} {ss : List (Nat × List Nat)} (h : StopsR rs bs ss) : ∃ l, ss = (0, bs) :: l := by
  obtain ⟨l, e⟩ := runL_head rs ss.length (0, bs)
  exact ⟨l, by rw [← h.run (N := ss.length) (by omega)]; exact e⟩
theorem StopsR.pos {rs : List Rw} {bs : List Nat} {ss : List (Nat × List Nat)} (h : StopsR rs bs ss) : 1 ≤ ss.length := by
  obtain ⟨l, e⟩ := h.head
  rw [e]
  exact Nat.le_add_left _ _
/-- a drawn program, contents, the run that stops -/
structure Stp4 (H : Hp) (p b q : Addr) (m : Nat) (rs : List Rw) (bs : List Nat) (ss : List (Nat × List Nat)) : Prop where
  rows : ∃ us, H p = some (.lst us) ∧ RwsAt H us rs
  bg : H b = some (.lst (nV bs))
  sd : ∃ xs, H q = some (.lst xs) ∧ SdL H xs ss
theorem Stp4.sm {H H' : Hp} {p b q : Addr} {m : Nat} {rs : List Rw} {bs : List Nat} {ss : List (Nat × List Nat)} (h : Stp4 H p b q m rs bs ss) (e : Sm H H') : Stp4 H' p b q m rs bs ss := by
  obtain ⟨⟨us, a, b⟩, c, ⟨xs, d, f⟩⟩ := h
  exact ⟨⟨us, e _ _ a, b.tk (Tk.sm e)⟩, e _ _ c, ⟨xs, e _ _ d, f.tk (Tk.sm e)⟩⟩
theorem Stp4.kb {H H' : Hp} {p b q x : Addr} {m : Nat} {rs : List Rw} {bs : List Nat} {ss : List (Nat × List Nat)} (h : Stp4 H p b q m rs bs ss) (hx : BoxAt H x) (n1 : p ≠ x) (n2 : b ≠ x) (n3 : q ≠ x) (e : Kp x H H') : Stp4 H' p b q m rs bs ss := by
  obtain ⟨⟨us, a, b⟩, c, ⟨xs, d, f⟩⟩ := h
  have t := Tk.kb hx e
  exact ⟨⟨us, e _ _ n1 a, b.tk t⟩, e _ _ n2 c, ⟨xs, e _ _ n3 d, f.tk t⟩⟩
structure StpOk (m : Nat) (rs : List Rw) (bs : List Nat) (ss : List (Nat × List Nat)) (M : Nat) : Prop where
  pr : Prg m rs
  ln : bs.length = m
  bd : ∀ c ∈ bs, c ≤ 500
  st : StopsR rs bs ss
  sl : ss.length ≤ M + 1
/-! rows one later, behind a go -/
theorem cl_nats : ∀ l : List Nat, PyData.canLayAll0 (nD l) = true ∧ PyData.depthAll (nD l) = 0
  | [] => ⟨rfl, rfl⟩
  | x :: l => by
    obtain ⟨h1, h2⟩ := cl_nats l
    unfold nD at h1 h2
    exact ⟨by simp [nD, PyData.canLayAll0, PyData.canLay0, h1], by simp [nD, PyData.depthAll, PyData.depth, h2]⟩
/-! enumerate over a tuple -/
section
open AutoSeq1 (wpAny_loadPart')
theorem meets_enumT (l : Addr) (items : Array Value) (n : Nat) (dct : Option Addr) (sl : Array (Option Value)) :
    Meets (Builtin.«enumerate.__new__» ⟨[.type "enumerate", .ref l], []⟩) (fun _ R s => s.heap.get? l = some { cls := .type "tuple", dict := dct, data := .seq items n, slots := sl } ∧
      R (.ok (.ret (.ref (s.heap.push { cls := .type "tuple_iterator", data := .fields #[.ref l, .int 0 0] }).objs.size)))
        { s with heap := (s.heap.push { cls := .type "tuple_iterator", data := .fields #[.ref l, .int 0 0] }).push { cls := .type "enumerate", data := .fields #[.none, .bool false, .ref s.heap.objs.size, rawInt 0, .none, .none] } }) :=
  .of_wp fun prog w A R s h => by
    obtain ⟨hp, g, d, tk, os⟩ := s; obtain ⟨hl, h⟩ := h
    have hsub := sub_enumerate
    have hL : Heap.IsTuple (Shared.heap ⟨hp, g, d, tk, os⟩) l items := ⟨_, hl, rfl, n, rfl⟩
    wp_walk using wpAny_loadPart' hl
    refine wpAny_stack_any fun st => PySem.wpAny_pure ?_
    split
    · rename_i c _ _ _ _ _
      cases (c == Value.type "enumerate")
      · wp_walk using wpAny_loadPart' hl, wpAny_pyIter_tuple hL
        exact ⟨_, rfl, h⟩
      · wp_walk using wpAny_loadPart' hl, wpAny_pyIter_tuple hL
        exact ⟨_, rfl, h⟩
    · wp_walk using wpAny_loadPart' hl, wpAny_pyIter_tuple hL
      exact ⟨_, rfl, h⟩
end
section
variable {prog : Program} {w : World} {A : Around} {E : Value → Shared → Prop} {s : Shared}
theorem call_enumT {l : Addr} {items : Array Value} {Q : Value → Shared → Prop} (hL : s.heap.IsTuple l items)
    (h : ∀ h', IsEnum h' (s.heap.objs.size + 1) s.heap.objs.size 0 .none → h'.IsTupleIter s.heap.objs.size l 0 → h'.objs.size = s.heap.objs.size + 2 →
      (∀ b o, s.heap.get? b = some o → h'.get? b = some o) → Q (.ref (s.heap.objs.size + 1)) { s with heap := h' }) :
    wpAny (model prog w) A (call (.type "enumerate") [.ref l]) Q E s := by
  obtain ⟨⟨c, dct, dt, sl⟩, hl, hc, n, hd⟩ := hL
  replace hc : c = .type "tuple" := hc
  replace hd : dt = .seq items n := hd
  subst hc hd
  refine callType_new PySem.F.called_enumerate (by decide) (PySem.F.typeCall_enumerate_1 _) (PySem.F.newCall_enumerate_1 _) (fun obj => PySem.F.args_object_init_2 obj _) PySem.F.entry_enumerate_new
    (meets_enumT l items n dct sl) ⟨hl, ?_⟩
  have hz : (s.heap.push { cls := .type "tuple_iterator", data := .fields #[.ref l, .int 0 0] }).objs.size = s.heap.objs.size + 1 := Heap.size_push ..
  show _ ∧ _
  rw [hz]
  have he : IsEnum ((s.heap.push { cls := .type "tuple_iterator", data := .fields #[.ref l, .int 0 0] }).push
      { cls := .type "enumerate", data := .fields #[.none, .bool false, .ref s.heap.objs.size, rawInt 0, .none, .none] }) (s.heap.objs.size + 1) s.heap.objs.size 0 .none := by
    have := Heap.get?_push_size (s.heap.push { cls := .type "tuple_iterator", data := .fields #[.ref l, .int 0 0] })
      (o := { cls := .type "enumerate", data := .fields #[.none, .bool false, .ref s.heap.objs.size, rawInt 0, .none, .none] }) rfl
    rw [hz] at this; exact this
  refine ⟨⟨_, he, rfl⟩, h _ he ⟨_, Heap.get?_push_of_some _ (Heap.get?_push_size _ rfl), rfl, rfl⟩ (by rw [Heap.size_push, hz]) fun b o x => Heap.get?_push_of_some _ (Heap.get?_push_of_some _ x)⟩
end
section
variable {prog : Program} {w : World} {A : Around} {E : Value → Shared → Prop} {s : Shared}
theorem wpAny_pyNext_enum_endT {e it l : Addr} {i : Nat} {items : Array Value} {old : Value} {Q : Option Value → Shared → Prop} (hh : A.handled = none)
    (he : IsEnum s.heap e it i old) (hit : s.heap.IsTupleIter it l i) (hl : s.heap.IsTuple l items) (hx : items[i]? = none)
    (hQ : ∀ h', Heap.ExtBut it s.heap h' → Q none { s with heap := h' }) : wpAny (model prog w) A (pyNext (.ref e)) Q E s := by
  have hT : s.TypeIs (.ref e) "enumerate" := ⟨_, he, rfl⟩
  unfold pyNext
  refine PySem.wpAny_bind (wpAny_attempt (wpAny_callSpecial?_slot (name := Str.ofString "__next__") hT PySem.F.slot_enumerate_next
    (wpAny_call_entry PySem.F.slot_enumerate_next hT PySem.F.entry_enumerate_next ?_ (PySem.F.args_enumerate_next_1 _))))
  show wpAny _ _ (field (.ref e) 2 >>= _) _ _ _
  refine PySem.wpAny_bind (wpAny_field he rfl (x := .ref it) rfl ?_)
  refine PySem.wpAny_bind (_root_.RZ.nextOf_tuple_end hh hit hl hx fun h' x he' hx' => ?_)
  obtain ⟨o, ho, hc⟩ := hx'
  refine PySem.wpAny_bind (wpAny_isInstance (T := "StopIteration") (b := true) ⟨o, ho, hc⟩ isSubtype_stop ?_)
  exact PySem.wpAny_pure (hQ _ he')
end
def ItTE (K : PySem.W.Frag) (a : Addr) : It :=
  ⟨fun i H => ∃ (xs : List V) (x : V), SqT K H a xs ∧ xs[i]? = some x, fun i H v H' => ∃ T x, v = .ref T ∧ H T = none ∧ H' = upd H T (.tup [.int (i : Nat), x]) ∧ ∀ xs, SqT K H a xs → xs[i]? = some x, fun i H => ∃ xs : List V, SqT K H a xs ∧ xs.length ≤ i⟩
theorem turn_TE {P : Program} {w : World} {K : PySem.W.Frag} {elts : List Expr} {kk : Nat} {tpos : Pos} (a e it : Addr) :
    Turn P w K (.Tuple elts kk tpos) (ItTE K a) [e, it] e (fun i h => (∃ old, IsEnum h e it ((i : Nat) : Int) old) ∧ h.IsTupleIter it a i ∧ e ≠ it ∧ e ≠ a ∧ a ≠ it) where
  mem := List.mem_cons_self
  obj := by
    rintro i h ⟨⟨old, he⟩, ⟨o, ho, hc, hd⟩, _⟩ b hb
    rcases (show b = e ∨ b = it by simpa using hb) with rfl | rfl
    · exact ⟨_, he, fun v q => nomatch q⟩
    · exact ⟨o, ho, fun v q => by rw [hd] at q; cases q⟩
  keep := by
    rintro i h h' ⟨⟨old, he⟩, ⟨o, ho, r⟩, ne⟩ k
    exact ⟨⟨old, k e (by simp) _ he⟩, ⟨o, k it (by simp) o ho, r⟩, ne⟩
  item := by
    intro X hP hw hK hc i pins s σ H E I hf st hg
    subst hP hw hK
    obtain ⟨⟨old, he⟩, hit, hne, hea, hai⟩ := st
    obtain ⟨xs, x, hq, hx⟩ := hg
    obtain ⟨its, rv, p, _⟩ := I.tuple hq
    obtain ⟨u, hu, ru⟩ := rv.get hx
    have hlen : i < its.length := (List.getElem?_eq_some_iff.mp hu).1
    have hel : e < s.heap.objs.size := Heap.lt_size he
    have hil : it < s.heap.objs.size := by
      obtain ⟨_, q, _⟩ := hit
      exact Heap.lt_size q
    have hef : e ∉ [it, a] := by simp [hne, hea]
    have D := Draws.tuple (prog := X.prog) (w := X.w) (A := X.A.in1) (I.ok.hd hc) it a hai its.toArray
    refine wpAny_pyNext_enum_itemD D he ⟨hit, p⟩ (by simpa using hlen) hne hef fun v h' tk hv ho hit' hT hsz hk => ?_
    have hvu : v = u := by
      have hv : its.toArray[i]? = some v := hv
      rw [show its.toArray[i]? = some u by simpa using hu] at hv
      exact (Option.some.inj hv).symm
    subst hvu
    refine ⟨_, rfl, wpAny_letOwnedTupleGo_enum (prog := X.prog) (w := X.w) (s := { s with heap := h', toks := tk + 1 }) ho fun h'' he' sb => ?_⟩
    have hT2 := (sb.2 _ (Nat.ne_of_gt hel)).trans hT
    have new : ObjOk X.prog X.w (upd H s.heap.objs.size (.tup [.int (i : Nat), x])) h'' s.heap.objs.size (.tup [.int (i : Nat), x]) :=
      ⟨by show 2 ≤ sizeLine; decide, [.int i tk, v], .cons ⟨_, rfl⟩ (.cons ru .nil), ⟨_, hT2, rfl, _, rfl⟩⟩
    have I1 := Inv.turnedNew (t' := tk + 1) I (ch := [e, it]) (fun b ob hb q => (sb.2 b (fun z => hb (by simp [z]))).trans (hk b ob (fun z => hb (by simp [z])) (fun z => hb (by simp [z])) q)) hf (Nat.le_refl _) new
    refine ⟨.ref s.heap.objs.size, _, I1, rfl, ⟨_, x, rfl, I.hok.fresh (Nat.le_refl _), rfl, fun ys hy => by rw [I.tuple_inj hy hq]; exact hx⟩, ⟨⟨v, ?_⟩, ?_, hne, hea, hai⟩, fun b hb => ?_⟩
    · rw [show ((i + 1 : Nat) : Int) = (i : Int) + 1 from rfl]
      exact he'
    · obtain ⟨o, q, r⟩ := hit'.1
      exact ⟨o, (sb.2 it (Ne.symm hne)).trans q, r⟩
    · have hb' : b < s.heap.objs.size := by
        rcases (show b = e ∨ b = it by simpa using hb) with rfl | rfl
        · exact hel
        · exact hil
      rw [upd_ne (Nat.ne_of_lt hb')]
      exact (hf b hb).1
  done := by
    intro X hP hw hK hc i pins s σ H E I hf st hg
    subst hP hw hK
    obtain ⟨⟨old, he⟩, hit, hne, hea, hai⟩ := st
    obtain ⟨xs, hq, hx⟩ := hg
    obtain ⟨its, rv, p, _⟩ := I.tuple hq
    have hl := rv.length
    obtain ⟨f0, f1, f2, f3, f4, f5⟩ := hf it (by simp)
    refine wpAny_pyNext_enum_endT (I.ok.hd hc) he hit p (by simp; omega) fun h' eb => ⟨rfl, I.turned (t' := s.toks) (fun b o hb q => eb b o hb q) f0 f1 f3 f4 f5⟩
  self := fun A i s Q E st h => by
    obtain ⟨⟨_, he⟩, _⟩ := st
    exact wpAny_pyIter_enum he h
def iEnT (K : PySem.W.Frag) (ta : TA) : TI := fun σ H R => ta σ H fun vs H1 => ∃ a xs, vs = [.ref a] ∧ SqT K H1 a xs ∧ R (ItTE K a) H1
theorem pi_enT {X : Cx} {e : Expr} {ta : TA} {p pos tpos : Pos} {elts : List Expr} {kk : Nat} (hg : Gl X "enumerate") (hm : X.mg "enumerate" = none) (ha : PA X [e] ta) (hs : starEach [e] X.env = [(false, eval e X.env)] := by rfl) :
    PI X (.Tuple elts kk tpos) (.Call (.Name "enumerate" p) [e] [] pos) (iEnT X.K ta) := by
  refine ⟨fun pins s σ H R I h => Call_ (ld_blt I hg hm boot_enumerate (PyProof.Rows.callWith_type1 (thn (ha.run pos pins s σ H _ I h) fun us s1 ⟨vs, H1, I1, r1, q1⟩ => ?_) hs rfl))⟩
  obtain ⟨a, xs, rfl, hq, q⟩ := q1
  obtain ⟨u, rfl, ru⟩ := vals1 r1
  obtain rfl : u = Value.ref a := ru
  obtain ⟨its, rv, p1, _⟩ := I1.tuple hq
  obtain ⟨o1, ho1, _⟩ := id p1
  have hal : a < s1.heap.objs.size := Heap.lt_size ho1
  refine call_enumT (items := its.toArray) p1 fun h' he hit hsz hk => wpAny_pyIter_enum he ?_
  have I2 : Inv X pins σ H1 { s1 with heap := h' } := Inv.kept (t' := s1.toks) I1 hk
  refine ⟨s1.heap.objs.size + 1, [s1.heap.objs.size + 1, s1.heap.objs.size], _, _, H1, rfl, I2, turn_TE a (s1.heap.objs.size + 1) s1.heap.objs.size, ⟨⟨.none, he⟩, hit, Nat.succ_ne_self _, Nat.ne_of_gt (Nat.lt_succ_of_lt hal), Nat.ne_of_lt hal⟩, fun b hb => ?_, q⟩
  have hle : s1.heap.objs.size ≤ b := by
    rcases (show b = s1.heap.objs.size + 1 ∨ b = s1.heap.objs.size by simpa using hb) with rfl | rfl
    · exact Nat.le_add_right _ _
    · exact Nat.le_refl _
  exact I1.fpOk hle (I1.hok.fresh hle)
theorem walk_TE {K : PySem.W.Frag} {a : Addr} {xs : List V} : Walk (ItTE K a) xs.length (fun H => SqT K H a xs) (YPair (fun i => some (.int (i : Nat))) (fun i => xs[i]?)) :=
  ⟨fun i H hi h => ⟨xs, _, h, List.getElem?_eq_getElem hi⟩, fun H h => ⟨xs, h, Nat.le_refl _⟩, fun i H v H' hi h y => by
    obtain ⟨T, x, e1, e2, e3, e4⟩ := y
    exact ⟨T, _, x, e1, e2, e3, rfl, e4 xs h⟩⟩
def EtE (K : PySem.W.Frag) (R : It → Hp → Prop) (vs : List V) (H1 : Hp) : Prop := ∃ a xs, vs = [.ref a] ∧ SqT K H1 a xs ∧ R (ItTE K a) H1
theorem w_iEt {K : PySem.W.Frag} {σ : L2.St} {H : Hp} {ta : TA} {R : It → Hp → Prop} (k : ta σ H fun vs H1 => EtE K R vs H1) : iEnT K ta σ H R := k
theorem w_iEte {K : PySem.W.Frag} {H : Hp} {R : It → Hp → Prop} {a : Addr} {xs : List V} (h : SqT K H a xs) (k : R (ItTE K a) H) : EtE K R [.ref a] H := ⟨a, xs, rfl, h, k⟩
theorem loopEt {σ : L2.St} {H : Hp} {D : Ends} {K : PySem.W.Frag} {g : TG} {tb : TS} {a : Addr} {xs : List V} (Pv : Nat → L2.St → Hp → Prop) (h0 : Pv 0 σ H) (hl : ∀ i σ H, i ≤ xs.length → Pv i σ H → SqT K H a xs)
    (hs : ∀ i x T σ H H', i < xs.length → xs[i]? = some x → Pv i σ H → H T = none → Sm H H' → H' T = some (.tup [.int (i : Nat), x]) → g (.ref T) σ H' fun σ2 H2 => tb (En (Pv (i + 1)) (RT D) (NX D) (Pv (i + 1))) σ2 H2)
    (hd : ∀ σ H, Pv xs.length σ H → NX D σ H) : Loop (ItTE K a) g tb D σ H :=
  for_it walk_TE Pv h0 hl (fun i x σ H H' hi p y => by
    obtain ⟨T, u, v, rfl, hT, rfl, h1, h2⟩ := y
    cases h1
    exact hs i v T σ H _ hi h2 p hT (sm_new hT) upd_same) hd
local macro_rules | `(tactic| tm_at "rs") => `(tactic| first | ((with_reducible refine' w_iEte ?h ?k); (case h => tm_at "rst")) | fail "no")
local macro_rules | `(tactic| tm_at "rs") => `(tactic| first | with_reducible refine w_iEt ?_ | fail "no")
/-! rows alike -/
theorem str_beq {a c : Str} (h : a ≠ c) : (a == c) = false := by simpa using h
theorem rw_eqv (r q : Rw) : PyData.eqv (.tuple r.ds) (.tuple q.ds) = decide (r = q) := by
  have n12 := str_beq (show Str.ofString "raise" ≠ Str.ofString "lower" by decide +kernel)
  have n13 := str_beq (show Str.ofString "raise" ≠ Str.ofString "if" by decide +kernel)
  have n14 := str_beq (show Str.ofString "raise" ≠ Str.ofString "go" by decide +kernel)
  have n15 := str_beq (show Str.ofString "raise" ≠ Str.ofString "stop" by decide +kernel)
  have n23 := str_beq (show Str.ofString "lower" ≠ Str.ofString "if" by decide +kernel)
  have n24 := str_beq (show Str.ofString "lower" ≠ Str.ofString "go" by decide +kernel)
  have n25 := str_beq (show Str.ofString "lower" ≠ Str.ofString "stop" by decide +kernel)
  have n34 := str_beq (show Str.ofString "if" ≠ Str.ofString "go" by decide +kernel)
  have n35 := str_beq (show Str.ofString "if" ≠ Str.ofString "stop" by decide +kernel)
  have n45 := str_beq (show Str.ofString "go" ≠ Str.ofString "stop" by decide +kernel)
  have n21 := str_beq (show Str.ofString "lower" ≠ Str.ofString "raise" by decide +kernel)
  have n31 := str_beq (show Str.ofString "if" ≠ Str.ofString "raise" by decide +kernel)
  have n41 := str_beq (show Str.ofString "go" ≠ Str.ofString "raise" by decide +kernel)
  have n51 := str_beq (show Str.ofString "stop" ≠ Str.ofString "raise" by decide +kernel)
  have n32 := str_beq (show Str.ofString "if" ≠ Str.ofString "lower" by decide +kernel)
  have n42 := str_beq (show Str.ofString "go" ≠ Str.ofString "lower" by decide +kernel)
  have n52 := str_beq (show Str.ofString "stop" ≠ Str.ofString "lower" by decide +kernel)
  have n43 := str_beq (show Str.ofString "go" ≠ Str.ofString "if" by decide +kernel)
  have n53 := str_beq (show Str.ofString "stop" ≠ Str.ofString "if" by decide +kernel)
  have n54 := str_beq (show Str.ofString "stop" ≠ Str.ofString "go" by decide +kernel)
  have ib : ∀ a b : Nat, ((a : Int) == (b : Int)) = decide (a = b) := fun a b => by
    by_cases h : a = b
    · subst h; simp
    · rw [decide_eq_false h]
      simpa using fun e : (a : Int) = b => h (Int.ofNat_inj.mp e)
  cases r <;> cases q <;> simp [Rw.ds, PyData.eqv, PyData.eqvAll, n12, n13, n14, n15, n23, n24, n25, n34, n35, n45, n21, n31, n41, n51, n32, n42, n52, n43, n53, n54, ib]
theorem rw_cl (r : Rw) : (PyData.tuple r.ds).canLay0 = true ∧ (PyData.tuple r.ds).depth ≤ 1 := by
  have s1 : PyData.strOk (Str.ofString "raise") = true := by decide +kernel
  have s2 : PyData.strOk (Str.ofString "lower") = true := by decide +kernel
  have s3 : PyData.strOk (Str.ofString "if") = true := by decide +kernel
  have s4 : PyData.strOk (Str.ofString "go") = true := by decide +kernel
  have s5 : PyData.strOk (Str.ofString "stop") = true := by decide +kernel
  cases r <;> simp [Rw.ds, PyData.canLay0, PyData.canLayAll0, PyData.depth, PyData.depthAll, s1, s2, s3, s4, s5]
theorem rw_shaped (r : Rw) : SeqAt.shaped (.tuple r.ds) = true := by
  obtain ⟨h1, h2⟩ := rw_cl r
  show ((PyData.tuple r.ds).canLay0 && decide ((PyData.tuple r.ds).depth ≤ 64)) = true
  rw [h1, decide_eq_true (by omega)]
  rfl
def rsD (rs : List Rw) : List PyData := rs.map fun r => .tuple r.ds
theorem RwAt.dp {K : PySem.W.Frag} {H : Hp} {v : V} {r : Rw} (h : RwAt H v r) : Dp K H v (.tuple r.ds) := by
  obtain ⟨p, rfl, q⟩ := h
  exact .tup (st_of q) (TpL.dp _ _ r.tpl)
theorem RwsAt.dp {K : PySem.W.Frag} {H : Hp} : ∀ {vs : List V} {rs : List Rw}, RwsAt H vs rs → DpAll K H vs (rsD rs)
  | _, _, .nil => .nil
  | _, _, .cons a b => .cons a.dp (RwsAt.dp b)
/-- a row against another one -/
theorem w_eqRow {K : PySem.W.Frag} {H : Hp} {Q : VK} {a b : Addr} {r q : Rw} (h1 : H a = some (.tup r.vs)) (h2 : H b = some (.tup q.vs)) (k : Q (.bl (decide (r = q))) H) : gEq K (.ref a) (.ref b) H Q := by
  refine .inr ⟨.tuple r.ds, .tuple q.ds, (rw_one h1).dp, (rw_one h2).dp, rw_shaped r, rw_shaped q, ?_⟩
  rw [rw_eqv]
  exact k
/-- the places of a row among rows -/
def plc (rs : List Rw) (q : Rw) (i : Nat) : List Nat := (List.range i).filter fun k => decide (rs[k]? = some q)
theorem plc_succ {rs : List Rw} {q : Rw} {i : Nat} : plc rs q (i + 1) = plc rs q i ++ (if rs[i]? = some q then [i] else []) := by
  unfold plc
  rw [List.range_succ, List.filter_append]
  by_cases h : rs[i]? = some q
  · rw [if_pos h, List.filter_cons_of_pos (by rw [decide_eq_true h]), List.filter_nil]
  · rw [if_neg h, List.filter_cons_of_neg (by rw [decide_eq_false h]; exact Bool.false_ne_true), List.filter_nil]
/-! f-strings -/
def JoE (ts : List TE) (acc : Str) (σ : L2.St) (Q : Str → Hp → Prop) (x : V) (H : Hp) : Prop := ∃ y : Str, x = .str y ∧ (acc ++ y).length ≤ sizeLine ∧ tJs ts (acc ++ y) σ H Q
def FmE (Q : VK) (x : V) (H : Hp) : Prop := (∃ y : Str, x = .str y ∧ y.length ≤ sizeLine ∧ Q (.str y) H) ∨ ∃ i : Int, x = .int i ∧ i.natAbs.log2 < 1920 ∧ Q (.str (toString i)) H
section
variable {σ : L2.St} {H : Hp} {Q : VK} {QS : Str → Hp → Prop} {ts : List TE} {t : TE} {acc y : Str} {i : Int}
theorem w_js (k : tJs ts Str.empty σ H fun out H1 => Q (.str out) H1) : (fun σ H Q => tJs ts Str.empty σ H fun out H1 => Q (.str out) H1 : TE) σ H Q := k
theorem w_j0 (k : QS acc H) : tJs [] acc σ H QS := k
theorem w_jc (k : t σ H (JoE ts acc σ QS)) : tJs (t :: ts) acc σ H QS := k
theorem w_je (z : (acc ++ y).length ≤ sizeLine) (k : tJs ts (acc ++ y) σ H QS) : JoE ts acc σ QS (.str y) H := ⟨y, rfl, z, k⟩
theorem str_e0 {y : Str} : Str.empty ++ y = y := by
  cases y with
  | mk c =>
    show Str.mk (#[] ++ c) = _
    rw [Array.empty_append]
theorem w_je0 (z : y.length ≤ sizeLine) (k : tJs ts y σ H QS) : JoE ts Str.empty σ QS (.str y) H := ⟨y, rfl, by rw [str_e0]; exact z, by rw [str_e0]; exact k⟩
theorem w_fm (k : t σ H (FmE Q)) : tFmt t σ H Q := k
theorem w_fmS (z : y.length ≤ sizeLine) (k : Q (.str y) H) : FmE Q (.str y) H := .inl ⟨y, rfl, z, k⟩
theorem w_fmI (z : i.natAbs.log2 < 1920) (k : Q (.str (toString i)) H) : FmE Q (.int i) H := .inr ⟨i, rfl, z, k⟩
theorem log_i64 (h : i.natAbs < 2 ^ 64) : i.natAbs.log2 < 1920 := PySem.Spec.log2_small (Nat.lt_of_lt_of_le h (by decide +kernel))
end
theorem tos_le {i : Int} (h : i.natAbs < 2 ^ 64) : (Str.ofString (toString i)).length ≤ 25 := by
  have e := int_text_length_le10 (k := 20) (by decide) (Nat.lt_of_lt_of_le h (show 2 ^ 64 ≤ 10 ^ 20 by decide))
  rw [PySem.ofString_length]
  omega
theorem sz_app {a b : Str} (h : b.length ≤ 25) (k : a.length ≤ 1000) : (a ++ b).length ≤ sizeLine := by
  rw [app_len]
  exact sz_of (by omega)
local macro_rules | `(tactic| tm_at "rsl") => `(tactic| first | with_reducible assumption | exact sz_of (by decide) | (apply sz_of; omega) | ((refine sz_app (tos_le ?h) ?i); (case h => omega); (case i => first | omega | decide)) | ((apply sz_of); (simp only [app_len]); omega) | fail "no")
local macro_rules | `(tactic| tm_at "rs") => `(tactic| first | ((with_reducible refine w_fmI ?h ?_); (case h => (apply log_i64; omega))) | fail "no")
local macro_rules | `(tactic| tm_at "rs") => `(tactic| first | ((with_reducible refine w_fmS ?h ?_); (case h => tm_at "rsl")) | fail "no")
local macro_rules | `(tactic| tm_at "rs") => `(tactic| first | ((with_reducible refine w_je ?h ?_); (case h => tm_at "rsl")) | fail "no")
local macro_rules | `(tactic| tm_at "rs") => `(tactic| first | ((with_reducible refine w_je0 ?h ?_); (case h => tm_at "rsl")) | fail "no")
local macro_rules | `(tactic| tm_at "rs") => `(tactic| first | with_reducible refine w_fm ?_ | fail "no")
local macro_rules | `(tactic| tm_at "rs") => `(tactic| first | with_reducible refine w_j0 ?_ | fail "no")
local macro_rules | `(tactic| tm_at "rs") => `(tactic| first | with_reducible refine w_jc ?_ | fail "no")
local macro_rules | `(tactic| tm_at "rs") => `(tactic| first | with_reducible refine w_js ?_ | fail "no")
/-! a letter and a number; lists of such -/
def nmS (c : Str) (j : Nat) : Str := c ++ Str.ofString (toString ((j : Nat) : Int))
/-- plain texts of few signs -/
def NmOk (l : List Str) : Prop := ∀ z ∈ l, Low z ∧ z.length ≤ 40
theorem NmOk.app {l m : List Str} (h : NmOk l) (k : NmOk m) : NmOk (l ++ m) := fun z hz => (List.mem_append.mp hz).elim (h z) (k z)
/-! list(range(n)) -/
def LrE (Q : VK) (x : V) (H : Hp) : Prop := ∃ n, x = .int n ∧ (RgOk 0 n ∧ ∀ q, H q = none → Q (.ref q) (upd H q (.lst (rgV 0 n))))
theorem w_lrg {ta : TE} {σ : L2.St} {H : Hp} {Q : VK} (k : ta σ H (LrE Q)) : tLstRg (tRg1 ta) σ H Q := k
theorem rg_nV (n : Nat) : rgV 0 ((n : Nat) : Int) = nV (List.range n) := by
  unfold rgV nV
  rw [show (((n : Nat) : Int) - 0).toNat = n by omega]
  refine List.map_congr_left fun i _ => ?_
  rw [Int.zero_add]
theorem w_lre {n : Nat} {H : Hp} {Q : VK} (h : n ≤ 10000) (k : ∀ p H', H p = none → Sm H H' → H' p = some (.lst (nV (List.range n))) → Q (.ref p) H') : LrE Q (.int (n : Nat)) H :=
  ⟨_, rfl, RgOk.of_le (by decide) (by omega) (by decide) (by omega), fun p hp => k p _ hp (sm_new hp) (by rw [upd_same, rg_nV])⟩
local macro_rules | `(tactic| tm_at "rs") => `(tactic| first | ((with_reducible refine' w_lre ?h (fun _ _ _ _ _ => ?k)); (case h => omega)) | fail "no")
local macro_rules | `(tactic| tm_at "rs") => `(tactic| first | with_reducible refine w_lrg ?_ | fail "no")
theorem w_isiNb {K : PySem.W.Frag} {H : Hp} {Q : VK} (k : Q (.bl false) H) : rIsi K [.non, .ty "bool"] H Q := ⟨_, _, _, _, _, rfl, .ty _, .base .non, kit_ty (by decide +kernel), k⟩
theorem w_neNN {K : PySem.W.Frag} {H : Hp} {Q : VK} (k : Q (.bl false) H) : gNe K .non .non H Q := .inl ⟨rfl, by simpa using k⟩
local macro_rules | `(tactic| tm_at "rs") => `(tactic| first | with_reducible refine w_neNN ?_ | fail "no")
local macro_rules | `(tactic| tm_at "rs") => `(tactic| first | with_reducible refine w_isiNb ?_ | fail "no")
/-! which boxes are asked -/
def isAsk (rs : List Rw) (j k : Nat) : Bool := match rs[k]? with
  | some (.br i g) => decide (i = j) && decide (g ≠ k + 1)
  | _ => false
def askB (rs : List Rw) (j n : Nat) : Bool := (List.range n).any (isAsk rs j)
def asked (m : Nat) (rs : List Rw) : List Nat := (List.range m).filter fun j => askB rs j rs.length
theorem isAsk_br {rs : List Rw} {j k i g : Nat} (h : rs[k]? = some (.br i g)) : isAsk rs j k = (decide (i = j) && decide (g ≠ k + 1)) := by
  unfold isAsk
  rw [h]
theorem isAsk_no {rs : List Rw} {j k : Nat} {r : Rw} (h : rs[k]? = some r) (n : ∀ i g, r ≠ .br i g) : isAsk rs j k = false := by
  unfold isAsk
  rw [h]
  cases r <;> first | rfl | exact absurd rfl (n _ _)
theorem asked_lt {m : Nat} {rs : List Rw} : ∀ j ∈ asked m rs, j < m := fun j hj => List.mem_range.mp (List.mem_filter.mp hj).1
theorem asked_len {m : Nat} {rs : List Rw} : (asked m rs).length ≤ m := by
  have := List.length_filter_le (fun j => askB rs j rs.length) (List.range m)
  rw [List.length_range] at this
  exact this
/-! a dict with numbers as keys -/
def nKey (n : Nat) : Key := Sum.inl ((n : Nat) : Int)
theorem w_dpeN {D : Ends} {σ : L2.St} {H : Hp} {a : Addr} {n : Nat} {v : V} {kvs : List (Key × V)} (h : H a = some (.dK kvs)) (l : kvs.length < sizeLine) (k : ∀ H', Kp a H H' → H' a = some (.dK (putK kvs (nKey n) v)) → NX D σ H') : DpE D σ v (.ref a) (.int (n : Nat)) H :=
  ⟨a, _, rfl, .inl ⟨kvs, nKey n, h, rfl, l, rfl⟩, k _ kp_upd upd_same⟩
/-! lists of numbers against the empty one -/
theorem w_neNil {K : PySem.W.Frag} {H : Hp} {Q : VK} {a b : Addr} {l : List Nat} (h1 : SqL K H a (nV l)) (h2 : SqL K H b []) (k : Q (.bl (decide (l ≠ []))) H) : gNe K (.ref a) (.ref b) H Q := by
  have sh : ∀ m : List Nat, SeqAt.shaped (.list (nD m)) = true := fun m => by
    obtain ⟨c1, c2⟩ := cl_nats m
    have h3 : (PyData.list (nD m)).depth ≤ 64 := by
      simp only [PyData.depth]
      omega
    show ((PyData.list (nD m)).canLay0 && decide ((PyData.list (nD m)).depth ≤ 64)) = true
    rw [Bool.and_eq_true]
    exact ⟨by simp only [PyData.canLay0]; exact c1, decide_eq_true h3⟩
  refine .inr ⟨.list (nD l), .list (nD []), .lst h1 (TpL.dp _ _ (tpl_nat (H := H) l)), .lst h2 .nil, sh l, sh [], ?_⟩
  have e : (!PyData.eqv (.list (nD l)) (.list (nD []))) = decide (l ≠ []) := by
    cases l <;> simp [nD, PyData.eqv, PyData.eqvAll]
  rw [e]
  exact k
/-! str of a number -/
def gStrN : List V → Hp → VK → Prop := fun xs H Q => ∃ i : Int, xs = [.int i] ∧ i.natAbs.log2 < 1920 ∧ Q (.str (toString i)) H
theorem call_gStrN {X : Cx} : CallR X (.type "str") gStrN := call_str_int
theorem w_strN {i : Int} {H : Hp} {Q : VK} (h : i.natAbs < 2 ^ 64) (k : Q (.str (Str.ofString (toString i))) H) : gStrN [.int i] H Q := ⟨i, rfl, log_i64 h, k⟩
theorem sz_add {a b : Str} (h : b.length ≤ 25) (k : a.length ≤ 1000) : a.length + b.length ≤ sizeLine := sz_of (by omega)
local macro_rules | `(tactic| tm_at "rs") => `(tactic| first | ((with_reducible refine w_addS ?h ?_); (case h => (refine sz_add (tos_le ?i) ?j; (case i => omega); (case j => first | omega | decide)))) | fail "no")
local macro_rules | `(tactic| tm_at "rs") => `(tactic| first | ((with_reducible refine w_strN ?h ?_); (case h => omega)) | fail "no")
local macro_rules | `(tactic| tm_at "rs") => `(tactic| first | ((with_reducible refine' w_neNil ?h ?l ?k); (case h => tm_at "rsq"); (case l => tm_at "rsq")) | fail "no")
local macro_rules | `(tactic| tm_at "rs") => `(tactic| first | ((with_reducible refine' w_dpeN ?h ?l (fun _ _ _ => ?k)); (case h => tm_at "rlk"); (case l => tm_at "rsz")) | fail "no")
/-! own classes: len, repr, str, truth, != of lists of them -/
/-! lists of own things, != that finds all alike -/
/-! str of a text or a whole number; texts joined; the lines of a program -/
def gStr2 : List V → Hp → VK → Prop := fun xs H Q => (∃ a, xs = [.str a] ∧ Q (.str a) H) ∨ ∃ i : Int, xs = [.int i] ∧ i.natAbs.log2 < 1920 ∧ Q (.str (toString i)) H
theorem call_gStr2 {X : Cx} : CallR X (.type "str") gStr2 := by
  intro pins s σ H xs us Q I rx h
  rcases h with h | h
  · exact SkE.call_str_str pins s σ H xs us Q I rx h
  · exact call_str_int pins s σ H xs us Q I rx h
theorem w_str2S {H : Hp} {Q : VK} {a : Str} (k : Q (.str a) H) : gStr2 [.str a] H Q := .inl ⟨a, rfl, k⟩
theorem w_str2I {H : Hp} {Q : VK} {i : Int} (h : i.natAbs < 2 ^ 64) (k : Q (.str (toString i)) H) : gStr2 [.int i] H Q := .inr ⟨i, rfl, log_i64 h, k⟩
local macro_rules | `(tactic| tm_at "rs") => `(tactic| first | ((with_reducible refine' w_str2I ?h ?_); (case h => omega)) | fail "no")
local macro_rules | `(tactic| tm_at "rs") => `(tactic| first | with_reducible refine w_str2S ?_ | fail "no")
theorem sz_cat {a b : Str} {p : Nat} (h : a.length ≤ p) (k : b.length ≤ 25) : (a ++ b).length ≤ p + 25 := by
  rw [app_len]
  omega
theorem sz_lit {a : Str} (h : a.length ≤ 25) : a.length ≤ 25 := h
theorem sz_tr {a p : Nat} (h : a ≤ p) (k : p ≤ 100000) : a ≤ sizeLine := sz_of (Nat.le_trans h k)
local macro_rules | `(tactic| tm_at "rz1") => `(tactic| first | ((with_reducible refine' tos_le ?h); (case h => omega)) | (exact sz_lit (by decide)) | fail "no")
local macro_rules | `(tactic| tm_at "rz") => `(tactic| first | ((with_reducible refine' sz_cat ?h ?k); (case k => tm_at "rz1"); (case h => tm_at "rz")) | tm_at "rz1" | fail "no")
local macro_rules | `(tactic| tm_at "rsl") => `(tactic| first | with_reducible assumption | ((refine' sz_tr (sz_cat ?h ?k) ?z); (case k => tm_at "rz1"); (case h => tm_at "rz"); (case z => decide)) | fail "no")
theorem w_addS2 {K : PySem.W.Frag} {H : Hp} {Q : VK} {a b : Str} (z : (a ++ b).length ≤ sizeLine) (k : Q (.str (a ++ b)) H) : gAdd K (.str a) (.str b) H Q := w_addS (by rw [app_len] at z; exact z) k
local macro_rules | `(tactic| tm_at "rs") => `(tactic| first | ((with_reducible refine' w_addS2 ?h ?_); (case h => tm_at "rsl")) | fail "no")
/-! small numbers written and read -/
def dgOk (n : Nat) : Bool :=
  let z : Str := toString (n : Int)
  decide (1 ≤ z.length) && decide (z.length ≤ 2) && decide ((Txt.stripChars z (Str.ofString "0123456789")).length = 0) && decide (1 < z.length → z.cps.toList[0]? ≠ some 48) && decide (PySem.intText? z = some (n : Int)) && decide (32 ∉ z.cps.toList) && decide (10 ∉ z.cps.toList)
theorem dg_all : ∀ n : Fin 100, dgOk n = true := by decide +kernel
structure DgF (z : Str) (n : Nat) : Prop where
  l1 : 1 ≤ z.length
  l2 : z.length ≤ 2
  st : (Txt.stripChars z (Str.ofString "0123456789")).length = 0
  z0 : 1 < z.length → z.cps.toList[0]? ≠ some 48
  it : PySem.intText? z = some (n : Int)
  b0 : 32 ∉ z.cps.toList
  n0 : 10 ∉ z.cps.toList
theorem dg {n : Nat} (h : n < 100) : DgF (toString (n : Int)) n := by
  have e := dg_all ⟨n, h⟩
  unfold dgOk at e
  simp only [Bool.and_eq_true, decide_eq_true_eq] at e
  obtain ⟨⟨⟨⟨⟨⟨h1, h2⟩, h3⟩, h4⟩, h5⟩, h6⟩, h7⟩ := e
  exact ⟨h1, h2, h3, h4, h5, h6, h7⟩
def StpE (Q : VK) (x y : V) (H : Hp) : Prop := ∃ a b, x = .str a ∧ [y] = [.str b] ∧ a.length ≤ sizeLine ∧ Q (.str (Txt.stripChars a b)) H
theorem w_stp {to te : TE} {σ : L2.St} {H : Hp} {Q : VK} (k : to σ H fun x H1 => (∃ a, x = .str a) ∧ te σ H1 fun y H2 => StpE Q x y H2) : tM1 (fun x xs H Q => ∃ a b, x = .str a ∧ xs = [.str b] ∧ a.length ≤ sizeLine ∧ Q (.str (Txt.stripChars a b)) H) to te σ H Q := k
def SplE (Q : VK) (x y : V) (H : Hp) : Prop := ∃ a b, x = .str a ∧ [y] = [.str b] ∧ (b.length == 0) = false ∧ a.length + 2 ≤ sizeLine ∧ rNewStrs (Txt.split a b) H Q
theorem w_spl {to te : TE} {σ : L2.St} {H : Hp} {Q : VK} (k : to σ H fun x H1 => (∃ a, x = .str a) ∧ te σ H1 fun y H2 => SplE Q x y H2) : tM1 (fun x xs H Q => ∃ a b, x = .str a ∧ xs = [.str b] ∧ (b.length == 0) = false ∧ a.length + 2 ≤ sizeLine ∧ rNewStrs (Txt.split a b) H Q) to te σ H Q := k
local macro_rules | `(tactic| tm_at "rs") => `(tactic| first | with_reducible refine w_spl ?_ | fail "no")
local macro_rules | `(tactic| tm_at "rs") => `(tactic| first | with_reducible refine w_isS ?_ | fail "no")
local macro_rules | `(tactic| tm_at "rs") => `(tactic| first | with_reducible refine w_stp ?_ | fail "no")
/-! list(zip(xs, ys)) of two lists of one length, the first one of texts or numbers: a new list of new pairs -/
theorem zip_len0 : typeLookup (.type "zip") "__len__" = pure none := am_miss_of_fast (by decide +kernel)
theorem zip_hint0 : typeLookup (.type "zip") "__length_hint__" = pure none := am_miss_of_fast (by decide +kernel)
structure ZAt (h : Heap) (z TI TO i1 i2 l1 l2 S : Addr) (xs ys : Array Value) (i : Nat) : Prop where
  ti : IsPair h TI (.ref i1) (.ref i2)
  a1 : h.IsListIter i1 l1 i
  a2 : h.IsListIter i2 l2 i
  b1 : h.IsList l1 xs
  b2 : h.IsList l2 ys
  zz : (IsZip h z TI TO .none ∧ ∃ a b, IsPair h TO a b) ∨ ∃ T f oT, IsZipHeld h z TI TO T f ∧ h.get? T = some oT ∧ T ≠ z ∧ T ≠ i1 ∧ T ≠ i2 ∧ T ≠ S
/-- where the seven stand -/
structure ZLow (z TI TO i1 i2 l1 l2 S : Addr) : Prop where
  z : z < S
  TI : TI < S
  TO : TO < S
  i1 : i1 < S
  i2 : i2 < S
  l1 : l1 < S
  l2 : l2 < S
section
variable {z TI TO i1 i2 l1 l2 S : Addr} {xs ys : Array Value} {i : Nat}
theorem ZAt.keep {h h' : Heap} (st : ZAt h z TI TO i1 i2 l1 l2 S xs ys i) (L : ZLow z TI TO i1 i2 l1 l2 S) (hk : ∀ b o, b ≠ S → h.get? b = some o → h'.get? b = some o) : ZAt h' z TI TO i1 i2 l1 l2 S xs ys i where
  ti := hk _ _ (Nat.ne_of_lt L.TI) st.ti
  a1 := st.a1.at fun o e => hk _ o (Nat.ne_of_lt L.i1) e
  a2 := st.a2.at fun o e => hk _ o (Nat.ne_of_lt L.i2) e
  b1 := st.b1.at fun o e => hk _ o (Nat.ne_of_lt L.l1) e
  b2 := st.b2.at fun o e => hk _ o (Nat.ne_of_lt L.l2) e
  zz := by
    rcases st.zz with ⟨hz, a, b, hT⟩ | ⟨T, f, oT, hz, hT, r1, r2, r3, r4⟩
    · exact .inl ⟨hk _ _ (Nat.ne_of_lt L.z) hz, a, b, hk _ _ (Nat.ne_of_lt L.TO) hT⟩
    · exact .inr ⟨T, f, oT, hk _ _ (Nat.ne_of_lt L.z) hz, hk _ _ r4 hT, r1, r2, r3, r4⟩
variable {prog : Program} {w : World} {A : Around} {E : Value → Shared → Prop} {s : Shared}
theorem zat_item {x y : Value} {Q : Option Value → Shared → Prop} (D : ZipApart z TI TO i1 i2 l1 l2) (st : ZAt s.heap z TI TO i1 i2 l1 l2 S xs ys i) (hS : S < s.heap.objs.size) (ex : xs[i]? = some x) (ey : ys[i]? = some y)
    (hQ : ∀ h', ZAt h' z TI TO i1 i2 l1 l2 S xs ys (i + 1) → h'.get? s.heap.objs.size = some { cls := .type "tuple", data := .seq #[x, y] } → h'.objs.size = s.heap.objs.size + 1 →
      (∀ c o, c ≠ z → c ≠ TO → c ≠ i1 → c ≠ i2 → s.heap.get? c = some o → h'.get? c = some o) → Q (some (.ref s.heap.objs.size)) { s with heap := h' }) :
    wpAny (model prog w) A (pyNext (.ref z)) Q E s := by
  obtain ⟨ti, a1, a2, b1, b2, zz⟩ := st
  have lt : ∀ {c o}, s.heap.get? c = some o → s.heap.objs.size ≠ c := fun e => Nat.ne_of_gt (Heap.lt_size e)
  have n1 : s.heap.objs.size ≠ i1 := by
    obtain ⟨_, e, _⟩ := a1
    exact lt e
  have n2 : s.heap.objs.size ≠ i2 := by
    obtain ⟨_, e, _⟩ := a2
    exact lt e
  rcases zz with ⟨hz, a, b, hT⟩ | ⟨T, f, oT, hz, hT, r1, r2, r3, r4⟩
  · refine wpAny_pyNext_zip_item D hz ti hT a1 a2 b1 b2 ex ey fun h' e1 e2 e3 e4 e5 e6 hk => ?_
    refine hQ h' ⟨hk _ _ D.TIz D.TITO D.TIi1 D.TIi2 ti, e3, e4, ?_, ?_, ?_⟩ e5 e6 hk
    · exact b1.at fun o e => hk _ o D.l1z D.l1TO D.l1i1 D.l1i2 e
    · exact b2.at fun o e => hk _ o D.l2z D.l2TO D.l2i1 D.l2i2 e
    · exact .inr ⟨s.heap.objs.size, false, _, e1, e5, lt hz, n1, n2, Nat.ne_of_gt hS⟩
  · refine wpAny_pyNext_zip_item_held D hz hT ti a1 a2 b1 b2 ex ey fun h' e1 e3 e4 e5 e6 hk => ?_
    refine hQ h' ⟨hk _ _ D.TIz D.TIi1 D.TIi2 ti, e3, e4, ?_, ?_, ?_⟩ e5 e6 fun c o c1 _ c3 c4 e => hk c o c1 c3 c4 e
    · exact b1.at fun o e => hk _ o D.l1z D.l1i1 D.l1i2 e
    · exact b2.at fun o e => hk _ o D.l2z D.l2i1 D.l2i2 e
    · exact .inr ⟨T, true, oT, e1, hk _ _ r1 r2 r3 hT, r1, r2, r3, r4⟩
theorem zat_done {Q : Option Value → Shared → Prop} (hh : A.handled = none) (D : ZipApart z TI TO i1 i2 l1 l2) (st : ZAt s.heap z TI TO i1 i2 l1 l2 S xs ys i) (ex : xs[i]? = none)
    (hQ : ∀ h', (∀ c o, c ≠ z → c ≠ TO → c ≠ i1 → c ≠ i2 → s.heap.get? c = some o → h'.get? c = some o) → Q none { s with heap := h' }) : wpAny (model prog w) A (pyNext (.ref z)) Q E s := by
  obtain ⟨ti, a1, a2, b1, b2, zz⟩ := st
  rcases zz with ⟨hz, a, b, hT⟩ | ⟨T, f, oT, hz, hT, r1, r2, r3, r4⟩
  · exact wpAny_pyNext_zip_end hh D hz ti hT a1 a2 b1 b2 (.inl ex) fun h' hk => hQ h' hk
  · exact wpAny_pyNext_zip_end_held hh D hz hT ti a1 a2 b1 b2 (.inl ex) fun h' hk => hQ h' fun c o c1 _ c3 c4 e => hk c o c1 c3 c4 e
end
/-- what the addresses hold -/
structure ZG (xs ys : Array Value) (lo : Addr) (h : Heap) (as : List Addr) : Prop where
  rise : as.Pairwise (· < ·)
  above : ∀ a ∈ as, lo < a
  pairs : ∀ (j : Nat) (a : Addr), as[j]? = some a → ∃ x y, xs[j]? = some x ∧ ys[j]? = some y ∧ h.get? a = some { cls := .type "tuple", data := .seq #[x, y] }
theorem ZG.there {xs ys : Array Value} {lo : Addr} {h : Heap} {as : List Addr} (g : ZG xs ys lo h as) {a : Addr} (ha : a ∈ as) : a < h.objs.size := by
  obtain ⟨j, hj⟩ := List.mem_iff_getElem?.mp ha
  obtain ⟨_, _, _, _, e⟩ := g.pairs j a hj
  exact Heap.lt_size e
abbrev lsO (acc : Array Value) (c : Nat) : Obj := { cls := .type "list", dict := none, data := .seq acc c, slots := #[] }
section
variable {prog : Program} {w : World} {A : Around} {s : Shared} {R : Result → Shared → Prop} {z TI TO i1 i2 l1 l2 S : Addr} {xs ys : Array Value}
theorem zl_loop (hh : A.handled = none) (D : ZipApart z TI TO i1 i2 l1 l2) (L : ZLow z TI TO i1 i2 l1 l2 S) (exy : xs.size = ys.size) (hn : xs.size ≤ sizeLine) (res : Value) {h₁ : Heap}
    (hR : ∀ h' tk acc c as, (∀ b o, b ≠ S → b ≠ z → b ≠ TO → b ≠ i1 → b ≠ i2 → h₁.get? b = some o → h'.get? b = some o) → h'.get? S = some (lsO acc c) → as.length = xs.size → ZG xs ys S h' as →
      acc.toList = as.map Value.ref → R (.ok (.ret res)) { s with heap := h', toks := tk }) :
    ∀ (k i : Nat) (h : Heap) (tk c : Nat) (acc : Array Value) (as : List Addr), xs.size - i = k → i ≤ xs.size → ZAt h z TI TO i1 i2 l1 l2 S xs ys i → (∀ b o, b ≠ S → b ≠ z → b ≠ TO → b ≠ i1 → b ≠ i2 → h₁.get? b = some o → h.get? b = some o) →
      h.get? S = some (lsO acc c) → acc.toList = as.map Value.ref → as.length = i → ZG xs ys S h as →
      codeAny (model prog w) A (.builtin "list.extend.loop" ⟨[.ref S, .ref z, res], []⟩) R { s with heap := h, toks := tk } := by
  intro k
  induction k with
  | zero =>
    intro i h tk c acc as hk hi hst hkeep hS hacc hal hG
    have hin : i = xs.size := by omega
    refine codeAny_builtin PySem.F.entry_extend_loop ?_
    rw [Around.under_plainId PySem.F.plain_extend_loop _]
    show wpAny _ A.in1 (pyNext (.ref z) >>= _) _ _ _
    refine wpAny_bind (zat_done (s := { s with heap := h, toks := tk }) (A := A.in1) hh D hst (by rw [hin]; exact Array.getElem?_eq_none (Nat.le_refl _)) fun h' he => ?_)
    have off : ∀ b, S < b → ∀ o, h.get? b = some o → h'.get? b = some o := fun b hb o e => he b o (Nat.ne_of_gt (Nat.lt_trans L.z hb)) (Nat.ne_of_gt (Nat.lt_trans L.TO hb)) (Nat.ne_of_gt (Nat.lt_trans L.i1 hb)) (Nat.ne_of_gt (Nat.lt_trans L.i2 hb)) e
    refine wpAny_pure (hR h' tk acc c as (fun b o n1 n2 n3 n4 n5 e => he b o n2 n3 n4 n5 (hkeep b o n1 n2 n3 n4 n5 e)) (he S _ (Nat.ne_of_gt L.z) (Nat.ne_of_gt L.TO) (Nat.ne_of_gt L.i1) (Nat.ne_of_gt L.i2) hS) (by omega) ⟨hG.rise, hG.above, fun j a hj => ?_⟩ hacc)
    obtain ⟨x, y, e1, e2, e3⟩ := hG.pairs j a hj
    exact ⟨x, y, e1, e2, off a (hG.above a (List.mem_of_getElem? hj)) _ e3⟩
  | succ k ih =>
    intro i h tk c acc as hk hi hst hkeep hS hacc hal hG
    have hlt : i < xs.size := by omega
    have hlt2 : i < ys.size := by omega
    have hsz : acc.size = i := by rw [← Array.length_toList, hacc, List.length_map, hal]
    have hSl : S < h.objs.size := Heap.lt_size hS
    refine codeAny_builtin PySem.F.entry_extend_loop ?_
    rw [Around.under_plainId PySem.F.plain_extend_loop _]
    show wpAny _ A.in1 (pyNext (.ref z) >>= _) _ _ _
    refine wpAny_bind (zat_item (s := { s with heap := h, toks := tk }) D hst hSl (Array.getElem?_eq_getElem hlt) (Array.getElem?_eq_getElem hlt2) fun h' hst' ht hz hkp => ?_)
    dsimp only at ht hz hkp ⊢
    have off : ∀ b, S < b → ∀ o, h.get? b = some o → h'.get? b = some o := fun b hb o e => hkp b o (Nat.ne_of_gt (Nat.lt_trans L.z hb)) (Nat.ne_of_gt (Nat.lt_trans L.TO hb)) (Nat.ne_of_gt (Nat.lt_trans L.i1 hb)) (Nat.ne_of_gt (Nat.lt_trans L.i2 hb)) e
    have hS' := hkp S _ (Nat.ne_of_gt L.z) (Nat.ne_of_gt L.TO) (Nat.ne_of_gt L.i1) (Nat.ne_of_gt L.i2) hS
    have up : ∀ b o, b ≠ S → h'.get? b = some o → (h'.update S (Obj.mapSeq (·.push (Value.ref h.objs.size)))).get? b = some o := fun b o hb e => (Heap.get?_update_other _ _ (Ne.symm hb)).trans e
    show wpAny _ A.in1 (updateSeq S (·.push (Value.ref h.objs.size)) >>= _) _ _ _
    apply wpAny_bind
    refine wpAny_updateSeq hS' rfl (wpAny_pure ⟨plainId_quiet PySem.F.plain_extend_loop _, ih (i + 1) _ tk _ (acc.push (Value.ref h.objs.size)) (as ++ [h.objs.size]) (by omega) hlt (hst'.keep L up)
      (fun b o n1 n2 n3 n4 n5 e => up b o n1 (hkp b o n2 n3 n4 n5 (hkeep b o n1 n2 n3 n4 n5 e))) (Heap.get?_update_self _ hS' rfl) (by rw [Array.toList_push, hacc, List.map_append]; rfl) (by rw [List.length_append, hal]; rfl) ⟨?_, ?_, ?_⟩⟩)
      (by rw [hsz]; omega) (by show (acc.push (Value.ref h.objs.size)).size ≤ sizeLine + 1; rw [Array.size_push, hsz]; omega)
    · refine List.pairwise_append.mpr ⟨hG.rise, List.pairwise_singleton _ _, fun a ha b hb => ?_⟩
      rw [List.mem_singleton.mp hb]
      exact hG.there ha
    · intro a ha
      rcases List.mem_append.mp ha with ha | ha
      · exact hG.above a ha
      · rw [List.mem_singleton.mp ha]
        exact hSl
    · intro j b hj
      rcases Nat.lt_trichotomy j as.length with c1 | c1 | c1
      · rw [List.getElem?_append_left c1] at hj
        obtain ⟨x, y, e1, e2, e3⟩ := hG.pairs j b hj
        have hb := hG.above b (List.mem_of_getElem? hj)
        exact ⟨x, y, e1, e2, up b _ (Nat.ne_of_gt hb) (off b hb _ e3)⟩
      · have hb : h.objs.size = b := by
          rw [c1] at hj
          simpa using hj
        rw [← hb, c1, hal]
        exact ⟨_, _, Array.getElem?_eq_getElem hlt, Array.getElem?_eq_getElem hlt2, up _ _ (Nat.ne_of_gt hSl) ht⟩
      · rw [List.getElem?_eq_none (by rw [List.length_append, List.length_singleton]; omega)] at hj
        cases hj
end
section
variable {prog : Program} {w : World} {A : Around} {E : Value → Shared → Prop} {s : Shared} {z TI TO i1 i2 l1 l2 : Addr} {xs ys : Array Value}
theorem zl_hint {r : Addr} {Q : Bool → Shared → Prop} (hT : s.TypeIs (.ref r) "zip") (h : Q true s) : wpAny (model prog w) A (Builtin.List.listLengthHint (.ref r)) Q E s := by
  unfold Builtin.List.listLengthHint
  refine wpAny_bind (wpAny_specialOf hT zip_len0 ?_)
  show wpAny _ _ (specialOf (Value.ref r) (Str.ofString "__length_hint__") >>= _) _ _ _
  refine wpAny_bind (wpAny_specialOf hT zip_hint0 ?_)
  exact wpAny_pure h
theorem ZAt.type {S : Addr} {i : Nat} (st : ZAt s.heap z TI TO i1 i2 l1 l2 S xs ys i) : s.TypeIs (.ref z) "zip" := by
  rcases st.zz with ⟨hz, _⟩ | ⟨T, f, oT, hz, _⟩
  · exact ⟨_, hz, rfl⟩
  · exact ⟨_, hz, rfl⟩
theorem zl_iter {S : Addr} {i : Nat} {Q : Value → Shared → Prop} (st : ZAt s.heap z TI TO i1 i2 l1 l2 S xs ys i) (z0 : IsZip s.heap z TI TO .none) (h : Q (.ref z) s) : wpAny (model prog w) A (pyIter (.ref z)) Q E s := wpAny_pyIter_zip z0 h
theorem zl_extend {R : Result → Shared → Prop} {S : Addr} (hh : A.handled = none) (D : ZipApart z TI TO i1 i2 l1 l2) (L : ZLow z TI TO i1 i2 l1 l2 S) (exy : xs.size = ys.size) (hn : xs.size ≤ sizeLine) (st : ZAt s.heap z TI TO i1 i2 l1 l2 S xs ys 0) (z0 : IsZip s.heap z TI TO .none) (res : Value) (c₀ : Nat) (hS : s.heap.get? S = some (lsO #[] c₀))
    (hR : ∀ h' tk acc c as, (∀ b o, b ≠ S → b ≠ z → b ≠ TO → b ≠ i1 → b ≠ i2 → s.heap.get? b = some o → h'.get? b = some o) → h'.get? S = some (lsO acc c) → as.length = xs.size → ZG xs ys S h' as →
      acc.toList = as.map Value.ref → R (.ok (.ret res)) { s with heap := h', toks := tk }) :
    wpAny (model prog w) A.in1 (Builtin.List.listExtendWith (.ref S) (.ref z) res)
      (fun fin s' => match fin with
        | .done f => R (.ok f) s'
        | .again c' => c'.quiet = true ∧ codeAny (model prog w) A c' R s') (fun e s' => R (.error e) s') s := by
  have hSz : S ≠ z := Nat.ne_of_gt L.z
  unfold Builtin.List.listExtendWith
  refine wpAny_bind (wpAny_typeOf (T := "zip") st.type ?_)
  have q1 : Builtin.List.listSameRef (.ref S) (.ref z) = false := by simp [Builtin.List.listSameRef, hSz]
  have q2 : (Value.type "zip" == Value.type "list") = false := by decide
  have q3 : (Value.type "zip" == Value.type "tuple") = false := by decide
  simp only [q1, q2, q3, Bool.or_false, Bool.false_eq_true, if_false]
  refine wpAny_bind (zl_iter st z0 ?_)
  refine wpAny_bind (wpAny_holding (zl_hint st.type ?_))
  refine wpAny_ite_split (fun _ => ?_) (fun q => absurd rfl q)
  refine wpAny_bind (wpAny_rule ?_)
  apply wpAny_bind
  show wpAny _ _ (updateSeq S (·.push .none) >>= fun _ => updateSeq S (·.pop)) _ _ _
  refine wpAny_bind (wpAny_updateSeq hS rfl ?_)
  have g2 := Heap.get?_update_self (Obj.mapSeq (·.push Value.none)) hS rfl
  refine wpAny_updateSeq (hz := by seq_fits) g2 rfl ?_
  have g3 := Heap.get?_update_self (Obj.mapSeq (·.pop)) g2 rfl
  have oth : ∀ b o, b ≠ S → s.heap.get? b = some o → ((s.heap.update S (Obj.mapSeq (·.push Value.none))).update S (Obj.mapSeq (·.pop))).get? b = some o :=
    fun b o hb e => (Heap.get?_update_other _ _ (Ne.symm hb)).trans ((Heap.get?_update_other _ _ (Ne.symm hb)).trans e)
  refine wpAny_pure ⟨plainId_quiet PySem.F.plain_extend_loop _, ?_⟩
  refine zl_loop (s := s) (h₁ := s.heap) hh D L exy hn res hR xs.size 0 _ _ _ #[] [] (Nat.sub_zero _) (Nat.zero_le _) (st.keep L oth) (fun b o n1 _ _ _ _ e => oth b o n1 e) g3 rfl rfl ⟨List.Pairwise.nil, (fun _ ha => nomatch ha), (fun j a hj => by simp at hj)⟩
theorem zl_init {R : Result → Shared → Prop} {S : Addr} (hh : A.handled = none) (D : ZipApart z TI TO i1 i2 l1 l2) (L : ZLow z TI TO i1 i2 l1 l2 S) (exy : xs.size = ys.size) (hn : xs.size ≤ sizeLine) (st : ZAt s.heap z TI TO i1 i2 l1 l2 S xs ys 0) (z0 : IsZip s.heap z TI TO .none) (hS : s.heap.get? S = some (lsO #[] 0))
    (hR : ∀ h' tk acc c as, (∀ b o, b ≠ S → b ≠ z → b ≠ TO → b ≠ i1 → b ≠ i2 → s.heap.get? b = some o → h'.get? b = some o) → h'.get? S = some (lsO acc c) → as.length = xs.size → ZG xs ys S h' as →
      acc.toList = as.map Value.ref → R (.ok (.ret .none)) { s with heap := h', toks := tk }) :
    wpAny (model prog w) A.in1 (Builtin.«list.__init__» ⟨[.ref S, .ref z], []⟩)
      (fun fin s' => match fin with
        | .done f => R (.ok f) s'
        | .again c' => c'.quiet = true ∧ codeAny (model prog w) A c' R s') (fun e s' => R (.error e) s') s := by
  show wpAny _ _ (do
    let old ← Builtin.List.listItems (.ref S)
    Builtin.List.listUpdate (.ref S) (fun _ => #[])
    letGo old.toList.reverse
    Builtin.List.listExtendWith (.ref S) (.ref z) .none) _ _ s
  apply wpAny_bind
  unfold Builtin.List.listItems
  refine wpAny_bind (wpAny_seqItems hS rfl (wpAny_pure ?_))
  show wpAny _ _ (updateSeq S (fun _ => #[]) >>= fun _ => letGo (#[] : Array Value).toList.reverse >>= fun _ => Builtin.List.listExtendWith (.ref S) (.ref z) .none) _ _ s
  refine wpAny_bind (wpAny_updateSeq hS rfl ?_)
  have g2 := Heap.get?_update_self (Obj.mapSeq (fun _ => (#[] : Array Value))) hS rfl
  have oth : ∀ b o, b ≠ S → s.heap.get? b = some o → (s.heap.update S (Obj.mapSeq (fun _ => (#[] : Array Value)))).get? b = some o := by
    intro b o hb e
    exact (Heap.get?_update_other _ _ (Ne.symm hb)).trans e
  refine wpAny_bind (wpAny_letGo ?_)
  refine zl_extend hh D L exy hn (st.keep L oth) (oth _ _ (Nat.ne_of_lt L.z) z0) .none _ g2 fun h' tk acc c as hk hS' hl hG hacc => ?_
  exact hR h' tk acc c as (fun b o n1 n2 n3 n4 n5 e => hk b o n1 n2 n3 n4 n5 (oth b o n1 e)) hS' hl hG hacc
theorem zl_call {Q : Value → Shared → Prop} (hh : A.handled = none) (D : ZipApart z TI TO i1 i2 l1 l2) (L : ZLow z TI TO i1 i2 l1 l2 s.heap.objs.size) (exy : xs.size = ys.size) (hn : xs.size ≤ sizeLine) (st : ∀ h', (∀ b o, s.heap.get? b = some o → h'.get? b = some o) → ZAt h' z TI TO i1 i2 l1 l2 s.heap.objs.size xs ys 0) (z0 : IsZip s.heap z TI TO .none)
    (hQ : ∀ h' tk acc c as, (∀ b o, b ≠ z → b ≠ TO → b ≠ i1 → b ≠ i2 → s.heap.get? b = some o → h'.get? b = some o) → h'.get? s.heap.objs.size = some (lsO acc c) → as.length = xs.size → ZG xs ys s.heap.objs.size h' as →
      acc.toList = as.map Value.ref → Q (.ref s.heap.objs.size) { s with heap := h', toks := tk }) :
    wpAny (model prog w) A (call (.type "list") [.ref z]) Q E s := by
  refine callType_codes (Q₁ := fun obj s₁ => obj = .ref s.heap.objs.size ∧ s₁ = { s with heap := s.heap.push (lsO #[] 0) }) PySem.F.called_list (PySem.F.typeCall_list_1 _) PySem.F.entry_list_init
    (code_list_new _ ⟨rfl, rfl⟩) fun obj s₁ h₁ => ?_
  obtain ⟨rfl, rfl⟩ := h₁
  have hS : (s.heap.push (lsO #[] 0)).get? s.heap.objs.size = some (lsO #[] 0) := Heap.get?_push_size _ rfl
  have kp : ∀ b o, s.heap.get? b = some o → (s.heap.push (lsO #[] 0)).get? b = some o := fun b o e => Heap.get?_push_of_some _ e
  refine ⟨⟨_, hS, rfl⟩, PySem.F.args_list_init_2 _ _, zl_init (A := A.in1) hh D L exy hn (st _ kp) (kp _ _ z0) hS fun h' tk acc c as hk hS' hl hG hacc => ?_⟩
  exact ⟨rfl, hQ h' tk acc c as (fun b o n2 n3 n4 n5 e => hk b o (Nat.ne_of_lt (Heap.lt_size e)) n2 n3 n4 n5 (kp b o e)) hS' hl hG hacc⟩
end
section
variable {X : Cx} {pins : List (Addr × Obj)} {σ : L2.St} {H : Hp} {s : Shared}
theorem zl_laid {S : Addr} {h' : Heap} {tk : Nat} {kvs : List (Key × V)} {us ws : List Value} {acc : Array Value} {c : Nat} {as : List Addr} (I : Inv X pins σ H s) (hz : kvs.length ≤ sizeLine) (r1 : Vals (kvs.map fun q => kV q.1) us) (r2 : Vals (kvs.map fun q => q.2) ws) (hle : s.heap.objs.size ≤ S)
    (hk : ∀ b o, s.heap.get? b = some o → h'.get? b = some o) (hS : h'.get? S = some (lsO acc c)) (hl : as.length = us.toArray.size) (hG : ZG us.toArray ws.toArray S h' as) (hacc : acc.toList = as.map Value.ref) :
    ∃ H' : Hp, Sm H H' ∧ H S = none ∧ H' S = some (.lst (as.map V.ref)) ∧ Paired (fun (t : Addr) (q : Key × V) => H' t = some (.tup [kV q.1, q.2])) as kvs ∧ Inv X pins σ H' { s with heap := h', toks := tk } := by
  have lk : kvs.length = us.length := by
    have := r1.length
    rw [List.length_map] at this
    exact this
  have hl2 : as.length = kvs.length := by rw [hl, List.size_toArray, lk]
  have nS : S ∉ as := fun q => Nat.lt_irrefl _ (hG.above _ q)
  have nd : as.Nodup := List.Pairwise.imp (fun {a b} (h : a < b) => Nat.ne_of_lt h) hG.rise
  have fr : ∀ t ∈ as, H t = none := fun t ht => I.hok.fresh (Nat.le_trans hle (Nat.le_of_lt (hG.above t ht)))
  have frS : H S = none := I.hok.fresh hle
  have at2 := LiI.putT_at as kvs (upd H S (.lst (as.map V.ref))) hl2 nd
  have off : ∀ b, b ∉ as → b ≠ S → LiI.putT (upd H S (.lst (as.map V.ref))) as kvs b = H b := fun b c1 c2 => by rw [LiI.putT_off as kvs _ c1, upd_ne c2]
  have low : ∀ b o, s.heap.get? b = some o → b ∉ as ∧ b ≠ S := fun b o e =>
    ⟨fun q => absurd (Heap.lt_size e) (Nat.not_lt.mpr (Nat.le_trans hle (Nat.le_of_lt (hG.above b q)))), Nat.ne_of_lt (Nat.lt_of_lt_of_le (Heap.lt_size e) hle)⟩
  have kp : ∀ b u, H b = some u → (LiI.putT (upd H S (.lst (as.map V.ref))) as kvs) b = some u := fun b u e => by
    rw [off b (fun q => by rw [fr b q] at e; cases e) (fun q => by rw [q, frS] at e; cases e)]
    exact e
  have eS : LiI.putT (upd H S (.lst (as.map V.ref))) as kvs S = some (.lst (as.map V.ref)) := by rw [LiI.putT_off as kvs _ nS, upd_same]
  refine ⟨LiI.putT (upd H S (.lst (as.map V.ref))) as kvs, kp, frS, eS, at2, ?_⟩
  refine I.call' (ch := []) rfl ⟨fun b o q _ _ _ => hk b o q, fun b o q _ _ _ => ⟨o.slots, hk b o q⟩, fun b o q n _ => ?_, fun b o q _ => ⟨o, hk b o q⟩, fun b xs q => kp b _ q, fun b o u q => kp b _ q, fun b ps q => ⟨#[], by rw [kp b _ q]; simp⟩⟩ (fun b u q => ?_) I.bare fun b q => by simp at q
  · obtain ⟨c1, c2⟩ := low b o q
    rw [off b c1 c2]
    exact n
  · by_cases hb : b ∈ as
    · obtain ⟨j, pk, e1, e2, e3⟩ := LiI.paired_ix at2 hb
      rw [e3] at q
      cases q
      obtain ⟨x, y, f1, f2, f3⟩ := hG.pairs j b e1
      have m1 : (kvs.map fun q => kV q.1)[j]? = some (kV pk.1) := by rw [List.getElem?_map, e2]; rfl
      have m2 : (kvs.map fun q => q.2)[j]? = some pk.2 := by rw [List.getElem?_map, e2]; rfl
      obtain ⟨x2, g1, rx⟩ := r1.get m1
      obtain ⟨y2, g2, ry⟩ := r2.get m2
      have f1 : us[j]? = some x := by simpa using f1
      have f2 : ws[j]? = some y := by simpa using f2
      obtain rfl : x2 = x := Option.some.inj (g1.symm.trans f1)
      obtain rfl : y2 = y := Option.some.inj (g2.symm.trans f2)
      exact ⟨by show 2 ≤ sizeLine; decide, [x2, y2], .cons rx (.cons ry .nil), ⟨_, f3, rfl, _, rfl⟩⟩
    · by_cases hb2 : b = S
      · rw [hb2] at q ⊢
        rw [eS] at q
        cases q
        refine ⟨by rw [List.length_map]; omega, acc.toList, c, by rw [hacc]; exact LiI.vals_refs as, ?_⟩
        rw [Array.toArray_toList]
        exact hS
      · rw [off b hb hb2] at q
        exact (I.hok b u q).stay (fun d v _ y => hk d v y) (fun d y => kp d _ y) fun d xs y => kp d _ y
end
def LzE (K : PySem.W.Frag) (Q : VK) (vs : List V) (H1 : Hp) : Prop := ∃ (a b : Addr) (kvs : List (Key × V)), vs = [.ref a, .ref b] ∧ SqL K H1 a (kvs.map fun q => kV q.1) ∧ SqL K H1 b (kvs.map fun q => q.2) ∧
  ∀ (p : Addr) (ts : List Addr) (H' : Hp), H1 p = none → Sm H1 H' → H' p = some (.lst (ts.map V.ref)) → Paired (fun (t : Addr) (q : Key × V) => H' t = some (.tup [kV q.1, q.2])) ts kvs → Q (.ref p) H'
def tLz (K : PySem.W.Frag) (ta : TA) : TE := fun σ H Q => ta σ H fun vs H1 => LzE K Q vs H1
theorem pe_listZip {X : Cx} {K : PySem.W.Frag} (hK : X.K = K) {e e2 : Expr} {ta : TA} {p pz pos posz : Pos} (hc : X.calm = true) (hg : Gl X "list") (hm : X.mg "list" = none) (hgz : Gl X "zip") (hmz : X.mg "zip" = none) (ha : PA X [e, e2] ta)
    (hv : bootBuiltins "list" = some (.type "list") := by exact PyProof.Rows.boot_list)
    (hs : starEach [.Call (.Name "zip" pz) [e, e2] [] posz] X.env = (false, eval (.Call (.Name "zip" pz) [e, e2] [] posz) X.env) :: starEach [] X.env := by rfl)
    (hs2 : starEach [e, e2] X.env = (false, eval e X.env) :: starEach [e2] X.env := by rfl) (hpl : (backTo posz (starEach [e2] X.env)).any (·.1) = false := by rfl) :
    PE X (.Call (.Name "list" p) [.Call (.Name "zip" pz) [e, e2] [] posz] [] pos) (tLz K ta) := by
  subst hK
  constructor
  intro pins s σ H Q I hq
  refine wpAny_Call_Name_kw (ld_blt I hg hm hv ?_)
  refine PyProof.Rows.callWith_type1 ?_ hs rfl
  rw [hs]
  show wpAny _ _ (spliced ((false, eval (.Call (.Name "zip" pz) [e, e2] [] posz) X.env) :: backTo pos (starEach [] X.env))) _ _ s
  apply Calls.spliced_cons
  refine wpAny_Call_Name_kw (ld_blt I hgz hmz PyProof.Rows.boot_zip (PyProof.Rows.callWith_type1 (thn (ha.run posz pins s σ H _ I hq) fun vv s1 hv1 => ?_) hs2 hpl))
  obtain ⟨vs, H1, I1, r0, a, b, kvs, rfl, h1, h2, q⟩ := hv1
  obtain ⟨va, vb, rfl, ra, rb⟩ := vals2 r0
  obtain rfl : va = Value.ref a := ra
  obtain rfl : vb = Value.ref b := rb
  obtain ⟨us, r1, p1, z1⟩ := I1.list h1
  obtain ⟨ws, r2, p2, z2⟩ := I1.list h2
  have la : a < s1.heap.objs.size := p1.lt
  have lb : b < s1.heap.objs.size := p2.lt
  have hz : kvs.length ≤ sizeLine := by
    rw [List.length_map] at z1
    exact z1
  have l1 : us.length = kvs.length := by
    have := r1.length
    rw [List.length_map] at this
    exact this.symm
  have l2 : ws.length = kvs.length := by
    have := r2.length
    rw [List.length_map] at this
    exact this.symm
  refine call_zip_2 p1.isList p2.isList fun h' hzz hTI hTO g1 g2 hsz hk => ?_
  apply Calls.spliced_nil
  have hs5 : ({ s1 with heap := h' } : Shared).heap.objs.size = s1.heap.objs.size + 5 := hsz
  have LW : ZLow (s1.heap.objs.size + 4) (s1.heap.objs.size + 2) (s1.heap.objs.size + 3) s1.heap.objs.size (s1.heap.objs.size + 1) a b h'.objs.size := by
    constructor <;> (show _ < h'.objs.size; rw [hsz]; first | exact Nat.add_lt_add_left (by decide) _ | exact Nat.lt_add_of_pos_right (by decide) | exact Nat.lt_of_lt_of_le la (Nat.le_add_right _ _) | exact Nat.lt_of_lt_of_le lb (Nat.le_add_right _ _))
  refine zl_call (s := { s1 with heap := h' }) (xs := us.toArray) (ys := ws.toArray) (I.ok.hd hc) (PySem.W.ktu_apart s1.heap.objs.size a b la lb) LW (by rw [List.size_toArray, List.size_toArray, l1, l2]) (by rw [List.size_toArray, l1]; exact hz) (fun h2' k2 => ?_) hzz fun h'' tk acc c as hk2 hS hl hG hacc => ?_
  · exact ⟨k2 _ _ hTI, g1.at fun o e => k2 _ o e, g2.at fun o e => k2 _ o e, (p1.isList.at fun o e => k2 _ o (hk _ o e)), (p2.isList.at fun o e => k2 _ o (hk _ o e)), .inl ⟨k2 _ _ hzz, _, _, k2 _ _ hTO⟩⟩
  · have kk : ∀ b o, s1.heap.get? b = some o → h''.get? b = some o := fun b o e => by
      have hb := Heap.lt_size e
      refine hk2 b o ?_ ?_ ?_ ?_ (hk b o e)
      · exact Nat.ne_of_lt (Nat.lt_of_lt_of_le hb (Nat.le_add_right _ _))
      · exact Nat.ne_of_lt (Nat.lt_of_lt_of_le hb (Nat.le_add_right _ _))
      · exact Nat.ne_of_lt hb
      · exact Nat.ne_of_lt (Nat.lt_of_lt_of_le hb (Nat.le_add_right _ _))
    obtain ⟨H', k1, k2, k3, k4, J⟩ := zl_laid (S := h'.objs.size) (tk := tk) I1 hz r1 r2 (by rw [hsz]; exact Nat.le_add_right _ _) kk hS hl hG hacc
    exact ⟨.ref _, H', J, rfl, q _ as H' k2 k1 k3 k4⟩
theorem w_lz {K : PySem.W.Frag} {ta : TA} {σ : L2.St} {H : Hp} {Q : VK} (k : ta σ H fun vs H1 => LzE K Q vs H1) : tLz K ta σ H Q := k
theorem w_lzE {K : PySem.W.Frag} {H : Hp} {Q : VK} {a b : Addr} {kvs : List (Key × V)} (h1 : SqL K H a (kvs.map fun q => kV q.1)) (h2 : SqL K H b (kvs.map fun q => q.2))
    (k : ∀ (p : Addr) (ts : List Addr) (H' : Hp), H p = none → Sm H H' → H' p = some (.lst (ts.map V.ref)) → Paired (fun (t : Addr) (q : Key × V) => H' t = some (.tup [kV q.1, q.2])) ts kvs → Q (.ref p) H') : LzE K Q [.ref a, .ref b] H :=
  ⟨a, b, kvs, rfl, h1, h2, k⟩
local macro_rules | `(tactic| tm_at "rs") => `(tactic| first | with_reducible refine w_lz ?_ | fail "no")
/-! d.update(e): two dicts -/
def rDUpd : V → List V → Hp → VK → Prop := fun x vs H Q => ∃ (a b : Addr) (kvs more : List (Key × V)), x = .ref a ∧ vs = [.ref b] ∧ H a = some (.dK kvs) ∧ H b = some (.dK more) ∧ a ≠ b ∧ kvs.length + more.length ≤ 10000 ∧ Q .non (upd H a (.dK (mergeK kvs more)))
theorem mtd_update {X : Cx} : MtR X "dict.update" rDUpd := by
  intro pins s σ H x vs v us Q I rx rv h
  obtain ⟨a, b, kvs, more, rfl, rfl, e1, e2, ne, hz, q⟩ := h
  obtain rfl : v = Value.ref a := rx
  obtain ⟨u, rfl, ru⟩ := vals1 rv
  obtain rfl : u = Value.ref b := ru
  obtain ⟨z1, s1, ps, k1, d1⟩ := dk_of I.hok e1
  obtain ⟨z2, s2, qs, k2, d2⟩ := dk_of I.hok e2
  have hsl := sizeLine_eq
  refine call_meetsIn PySem.F.slot_dict_update d1.typeIs PySem.F.entry_dict_update (PySem.F.args_dict_update_2 _ _) (meets_dict_update (mixKind X.prog X.w) a b ne s2) ⟨ps, qs, d1, d2, ?_, fun h' dd _ hs => ?_⟩
  · rw [← k1.length, ← k2.length]
    omega
  · have he : ∃ o, h'.get? a = some o := by
      obtain ⟨o, _, _, ho, _⟩ := dd
      exact ⟨o, ho⟩
    have zz : (mergeK kvs more).length ≤ sizeLine := by
      have := length_mergeK more kvs
      omega
    exact ⟨.non, _, d_write (t' := s.toks) I (by rw [e1]; trivial) hs he (dk_new zz s1 (KV.merge k2 k1) dd), rfl, q⟩
theorem w_bmD {K : PySem.W.Frag} {H : Hp} {d : Addr} {kvs : List (Key × V)} {R : Prop} (h : H d = some (.dK kvs)) (k : R) : BmE K "dict" (.ref d) H R := ⟨.inr (.inr (.inl ⟨rfl, .inl ⟨kvs, h⟩⟩)), k⟩
theorem w_dupd {H : Hp} {Q : VK} {a b : Addr} {kvs more : List (Key × V)} (h1 : H a = some (.dK kvs)) (h2 : H b = some (.dK more)) (ne : a ≠ b) (z : kvs.length + more.length ≤ 10000) (k : ∀ H', Kp a H H' → H' a = some (.dK (mergeK kvs more)) → Q .non H') : rDUpd (.ref a) [.ref b] H Q :=
  ⟨a, b, kvs, more, rfl, rfl, h1, h2, ne, z, k _ kp_upd upd_same⟩
local macro_rules | `(tactic| tm_at "rs") => `(tactic| first | ((with_reducible refine' w_bmD ?h ?k); (case h => tm_at "rlk")) | fail "no")
/-! the numbers of a run, as a dict -/
theorem nmS_inj {c : Str} {i j : Nat} (hi : i < 100) (hj : j < 100) (h : nmS c i = nmS c j) : i = j := by
  have e : (c ++ (toString ((i : Nat) : Int) : Str)).cps.toList = (c ++ (toString ((j : Nat) : Int) : Str)).cps.toList := congrArg (fun z : Str => z.cps.toList) h
  have ap : ∀ a b : Str, (a ++ b).cps.toList = a.cps.toList ++ b.cps.toList := fun a b => Array.toList_append
  rw [ap, ap] at e
  have e2 := str_ext (List.append_cancel_left e)
  have a1 := (dg hi).it
  have a2 := (dg hj).it
  rw [e2, a2] at a1
  have := Option.some.inj a1
  omega
theorem nmS_hd {c : Str} {j : Nat} {x : Nat} (h : c.cps.toList.head? = some x) : (nmS c j).cps.toList.head? = some x := by
  have ap : (nmS c j).cps.toList = c.cps.toList ++ (toString ((j : Nat) : Int) : Str).cps.toList := Array.toList_append
  rw [ap, List.head?_append, h]
  rfl
theorem nmS_ne {c d : Str} {x y : Nat} (hx : c.cps.toList.head? = some x) (hy : d.cps.toList.head? = some y) (n : x ≠ y) (i j : Nat) : nmS c i ≠ nmS d j := fun e => by
  have h1 := nmS_hd (j := i) hx
  rw [e, nmS_hd hy] at h1
  exact n (Option.some.inj h1).symm
theorem nmS_ne1 {c d : Str} {x y : Nat} (hx : c.cps.toList.head? = some x) (hy : d.cps.toList.head? = some y) (n : x ≠ y) (i : Nat) : nmS c i ≠ d := fun e => by
  have h1 := nmS_hd (j := i) hx
  rw [e, hy] at h1
  exact n (Option.some.inj h1).symm
def kvE (s : Str) (v : Int) : Key × V := (Sum.inr s, V.int v)
def cell (ss : List (Nat × List Nat)) (t j : Nat) : Nat := match ss[t]? with
  | some (_, cs) => cs.getD j 0
  | none => 0
def iS (c n : Nat) : Int := ((List.range n).map fun t => (2 : Int) ^ (c * t)).sum
def rS (c : Nat) (ss : List (Nat × List Nat)) (j : Nat) : Int := ((List.range ss.length).map fun t => (cell ss t j : Int) * 2 ^ (c * t)).sum
def atR (ss : List (Nat × List Nat)) (k t : Nat) : Bool := match ss[t]? with
  | some (r, _) => decide (r = k)
  | none => false
def lS (c : Nat) (ss : List (Nat × List Nat)) (k : Nat) : Int := (((List.range ss.length).filter (atR ss k)).map fun t => (2 : Int) ^ (c * t)).sum
def an8 (c n len sb : Nat) : List (Key × V) := [kvE "s" ((n : Int) - 1), kvE "c" (c : Nat), kvE "h" (2 ^ (c - 1)), kvE "d" (2 ^ (c - 1) - (sb : Nat) - 1), kvE "q" (2 ^ c), kvE "g" (2 ^ c - (len : Nat) - 1), kvE "i" (iS c n), kvE "m" ((2 ^ (c - 1) - 1) * iS c n)]
def anX (m : Nat) (bs : List Nat) : List (Key × V) := (List.range m).map fun j => kvE (nmS "x" j) (bs.getD j 0 : Nat)
def anY (m : Nat) (ys : List Nat) : List (Key × V) := (List.range m).map fun j => kvE (nmS "y" j) (ys.getD j 0 : Nat)
def anR (m c : Nat) (ss : List (Nat × List Nat)) : List (Key × V) := (List.range m).map fun j => kvE (nmS "r" j) (rS c ss j)
def anL (n c : Nat) (ss : List (Nat × List Nat)) : List (Key × V) := (List.range n).map fun k => kvE (nmS "l" k) (lS c ss k)
def anE (m c : Nat) (rs : List Rw) (ss : List (Nat × List Nat)) : List (Key × V) := (asked m rs).map fun j => kvE (nmS "e" j) (2 ^ c * iS c ss.length - 2 * rS c ss j)
/-- an answer -/
def ansD (m : Nat) (rs : List Rw) (bs ys : List Nat) (ss : List (Nat × List Nat)) (c : Nat) : List (Key × V) := anX m bs ++ anY m ys ++ an8 c ss.length rs.length bs.sum ++ anR m c ss ++ anL rs.length c ss ++ anE m c rs ss
theorem an8_self (c n len sb : Nat) : mergeK [] (an8 c n len sb) = an8 c n len sb := by
  unfold an8 mergeK kvE
  simp only [List.foldl_cons, List.foldl_nil]
  simp (decide := true) [putK]
theorem merge_app (a b c : List (Key × V)) : mergeK a (b ++ c) = mergeK (mergeK a b) c := List.foldl_append
theorem merge_snoc (a b : List (Key × V)) (s : Str) (v : Int) : mergeK a (b ++ [kvE s v]) = putK (mergeK a b) (.inr s) (.int v) := by rw [merge_app]; rfl
theorem merge_len : ∀ (b a : List (Key × V)), (mergeK a b).length ≤ a.length + b.length
  | [], _ => Nat.le_refl _
  | (k, v) :: b, a => by
    have h1 := merge_len b (putK a k v)
    have h2 : (putK a k v).length ≤ a.length + 1 := _root_.Rs.putK_len
    show (mergeK (putK a k v) b).length ≤ a.length + (b.length + 1)
    omega
theorem merge_off {k : Key} : ∀ (b a : List (Key × V)), (∀ q ∈ b, q.1 ≠ k) → valV (mergeK a b) k = valV a k
  | [], _, _ => rfl
  | (k', v) :: b, a, h => by
    show valV (mergeK (putK a k' v) b) k = _
    rw [merge_off b _ fun q hq => h q (List.mem_cons_of_mem _ hq), valV_put, if_neg fun e => h (k', v) List.mem_cons_self e.symm]
theorem merge_at {k : Key} {v : V} (b1 b2 a : List (Key × V)) (h : ∀ q ∈ b2, q.1 ≠ k) : valV (mergeK a (b1 ++ (k, v) :: b2)) k = some v := by
  rw [merge_app]
  show valV (mergeK (putK (mergeK a b1) k v) b2) k = _
  rw [merge_off b2 _ h, valV_put, if_pos rfl]
theorem nV_int (bs : List Nat) : nV bs = (bs.map fun x : Nat => (x : Int)).map V.int := by
  rw [List.map_map]
  rfl
theorem sum_cast : ∀ bs : List Nat, (bs.map fun x : Nat => (x : Int)).sum = ((bs.sum : Nat) : Int)
  | [] => rfl
  | b :: bs => by
    rw [List.map_cons, List.sum_cons, List.sum_cons, sum_cast bs]
    rfl
theorem iS_succ (c n : Nat) : iS c (n + 1) = iS c n + 2 ^ (c * n) := by
  unfold iS
  rw [List.range_succ, List.map_append, List.sum_append]
  simp
theorem iS_bd {c : Nat} (c1 : 1 ≤ c) : ∀ n, 0 ≤ iS c n ∧ iS c n < 2 ^ (c * n)
  | 0 => ⟨Int.le_refl _, by unfold iS; simp⟩
  | n + 1 => by
    have h := iS_bd c1 n
    rw [iS_succ]
    have e : (2 : Int) ^ (c * (n + 1)) = 2 ^ (c * n) * 2 ^ c := by rw [Nat.mul_succ, Int.pow_add]
    have h2 : (2 : Int) ≤ 2 ^ c := by
      obtain ⟨d, rfl⟩ : ∃ d, c = d + 1 := ⟨c - 1, by omega⟩
      have := Int.pow_pos (n := 2) (m := d) (by decide)
      rw [Int.pow_succ]
      omega
    have h0 : (0 : Int) < 2 ^ (c * n) := Int.pow_pos (by decide)
    have h3 : (2 : Int) ^ (c * n) * 2 ≤ 2 ^ (c * n) * 2 ^ c := Int.mul_le_mul_of_nonneg_left h2 (Int.le_of_lt h0)
    rw [e]
    omega
theorem pow2_nat (n : Nat) : (2 : Int) ^ n = ((2 ^ n : Nat) : Int) := by rw [Int.natCast_pow]; rfl
theorem iS_cm {c n : Nat} (c1 : 1 ≤ c) (h : c * n ≤ 1000000) {z : Int} (hz : z.natAbs < 2 ^ 1001) : CM z (iS c n) := by
  obtain ⟨h0, h1⟩ := iS_bd c1 n
  refine .inr (mulx_ok (a := 1001) (b := c * n) hz ?_ (by omega))
  rw [pow2_nat] at h1
  omega
theorem pow_less (c : Nat) : ((2 : Int) ^ (c - 1) - 1).natAbs < 2 ^ (c + 1) := by
  have h1 : 2 ^ (c - 1) ≤ 2 ^ (c + 1) := Nat.pow_le_pow_right (by decide) (by omega)
  have h0 : 0 < 2 ^ (c - 1) := Nat.pow_pos (by decide)
  rw [pow2_nat]
  omega
theorem shl_cell {x : Nat} {j : Int} (hx : x ≤ 2 ^ 100) (h0 : 0 ≤ j) (h : j ≤ 1000000) : CShl (x : Int) j := by
  refine ⟨h0, ?_⟩
  have : Builtin.Int.intBits (x : Int) ≤ 101 := PyProof.Rows.intBits_le (by rw [Int.natAbs_natCast]; exact Nat.lt_of_le_of_lt hx (Nat.pow_lt_pow_right (by decide) (by decide)))
  omega
theorem filt1 {α : Type} (p : α → Bool) (x : α) : [x].filter p = if p x = true then [x] else [] := by
  cases h : p x <;> simp [h]
theorem merge_r {a B : List (Key × V)} {c j : Nat} {ss : List (Nat × List Nat)} : ∀ m, j < m → m ≤ 100 → valV (mergeK a (B ++ anR m c ss)) (.inr (nmS "r" j)) = some (.int (rS c ss j))
  | 0, h, _ => absurd h (Nat.not_lt_zero _)
  | m + 1, h, h2 => by
    have e : anR (m + 1) c ss = anR m c ss ++ [kvE (nmS "r" m) (rS c ss m)] := by
      unfold anR
      rw [List.range_succ, List.map_append]
      rfl
    rw [e, ← List.append_assoc, merge_snoc, valV_put]
    by_cases hj : j = m
    · rw [if_pos (by rw [hj]), hj]
    · rw [if_neg (fun q => hj (nmS_inj (by omega) (by omega) (Sum.inr.inj q)))]
      exact merge_r m (by omega) (by omega)
theorem merge_rE {a B E : List (Key × V)} {m c j : Nat} {ss : List (Nat × List Nat)} (h : j < m) (h2 : m ≤ 100) (hE : ∀ q ∈ E, q.1 ≠ .inr (nmS "r" j)) : valV (mergeK a (B ++ anR m c ss ++ E)) (.inr (nmS "r" j)) = some (.int (rS c ss j)) := by
  rw [merge_app, merge_off _ _ hE]
  exact merge_r m h h2
theorem anL_ne {n c j : Nat} {ss : List (Nat × List Nat)} : ∀ q ∈ anL n c ss, q.1 ≠ .inr (nmS "r" j) := fun q hq e => by
  obtain ⟨k, _, rfl⟩ := List.mem_map.mp hq
  exact nmS_ne (x := 108) (y := 114) rfl rfl (by decide) k j (Sum.inr.inj e)
theorem anE_ne {l : List Nat} {f : Nat → Int} {j : Nat} : ∀ q ∈ l.map fun j => kvE (nmS "e" j) (f j), q.1 ≠ .inr (nmS "r" j) := fun q hq e => by
  obtain ⟨k, _, rfl⟩ := List.mem_map.mp hq
  exact nmS_ne (x := 101) (y := 114) rfl rfl (by decide) k j (Sum.inr.inj e)
/-! sum(list, start=0); lists of the same objects compared -/
/-! two lists of the same objects -/
def rNeSameL : R2 := fun x y H Q => ∃ a b xs, x = .ref a ∧ y = .ref b ∧ H a = some (.lst xs) ∧ H b = some (.lst xs) ∧ (∀ v ∈ xs, ∃ p, v = V.ref p) ∧ Q (.bl false) H
theorem vals_refs : ∀ {xs : List V} {us vs : List Value}, (∀ v ∈ xs, ∃ p, v = V.ref p) → Vals xs us → Vals xs vs → us = vs
  | [], _, _, _, .nil, .nil => rfl
  | x :: xs, _, _, h, .cons r1 t1, .cons r2 t2 => by
    obtain ⟨p, rfl⟩ := h x List.mem_cons_self
    cases r1
    cases r2
    rw [vals_refs (fun v hv => h v (List.mem_cons_of_mem _ hv)) t1 t2]
theorem op_neSameL {X : Cx} (hu : X.A.units + 64 < cLine) : OpR X (compareOp .NotEq) rNeSameL := by
  intro pins s σ H x y v u Q I rx ry h
  obtain ⟨a, b, xs, rfl, rfl, ea, eb, hx, q⟩ := h
  cases rx
  cases ry
  obtain ⟨its, rv, hl, _⟩ := I.list (.inl (.inl ea))
  obtain ⟨its2, rv2, hl2, _⟩ := I.list (.inl (.inl eb))
  have e := vals_refs hx rv rv2
  subst e
  refine SeqAt.RcNeAt.lists (e := fun _ => true) hl.isList hl2.isList rfl (by omega) (fun j h1 h2 => SeqAt.EqAt.same _) X.prog X.w X.xe _ ?_
  rw [show (!(List.range its.toArray.size).all fun _ => true) = false by simp]
  exact ⟨.bl false, H, I, rfl, q⟩
theorem w_neSameL {H : Hp} {Q : VK} {a b : Addr} {xs : List V} (ha : H a = some (.lst xs)) (hb : H b = some (.lst xs)) (h : ∀ v ∈ xs, ∃ p, v = V.ref p) (k : Q (.bl false) H) : rNeSameL (.ref a) (.ref b) H Q := ⟨a, b, xs, rfl, rfl, ha, hb, h, k⟩
theorem w_cKw {r : List V → List V → Hp → VK → Prop} {t tk : TA} {σ : L2.St} {H : Hp} {Q : VK} (k : t σ H fun vs H1 => tk σ H1 fun zs H2 => r vs zs H2 Q) : tCKw r t tk σ H Q := k
local macro_rules | `(tactic| tm_at "rs") => `(tactic| with_reducible refine w_cKw ?_)
/-! a, b = a list -/
theorem pg_gl {X : Cx} {K : PySem.W.Frag} (hK : X.K = K) {es : List Expr} {k : Nat} {pos : Pos} {t : TGs} {n : Nat} (hc : X.calm = true) (h : PGs X es t) (hl : (assignEach es X.env).length = n := by rfl) (hst : (assignEach es X.env).findIdx? (·.1) = none := by rfl) :
    PG X (.Tuple es k pos) (L2.gLst K n t) := by
  subst hK
  exact pg_lst hc h hl hst
theorem w_glst {K : PySem.W.Frag} {n : Nat} {t : TGs} {σ : L2.St} {H : Hp} {Q : L2.St → Hp → Prop} {a : Addr} {xs : List V} (h : SqL K H a xs) (l : xs.length = n) (k : t xs σ H Q) : L2.gLst K n t (.ref a) σ H Q := ⟨a, xs, rfl, h, l, k⟩
local macro_rules | `(tactic| tm_at "rs") => `(tactic| first | ((with_reducible refine' w_glst ?h ?l ?k); (case h => tm_at "rsq"); (case l => rfl)) | fail "no")
/-! dict(list of pairs) -/
def dictPE (K : PySem.W.Frag) (xs : List V) (H : Hp) (Q : VK) : Prop := ∃ (a : Addr) (ps : List Addr) (kvs : List (Key × V)), xs = [.ref a] ∧ SqL K H a (ps.map V.ref) ∧ Paired (fun p kv => SqT K H p [kV kv.1, kv.2]) ps kvs ∧ ∀ p, H p = none → Q (.ref p) (upd H p (.dK (mergeK [] kvs)))
theorem call_gDictP {X : Cx} {K : PySem.W.Frag} (hK : K = X.K) (hc : X.calm = true) : CallR X (.type "dict") (dictPE K) := by
  subst hK
  exact call_dictP hc
theorem w_dictP {K : PySem.W.Frag} {H : Hp} {Q : VK} {a : Addr} {ps : List Addr} {kvs : List (Key × V)} (h : SqL K H a (ps.map V.ref)) (hp : Paired (fun p kv => SqT K H p [kV kv.1, kv.2]) ps kvs) (k : ∀ p H', H p = none → Sm H H' → H' p = some (.dK (mergeK [] kvs)) → Q (.ref p) H') : dictPE K [.ref a] H Q :=
  ⟨a, ps, kvs, rfl, h, hp, fun p hn => k p _ hn (sm_new hn) upd_same⟩
/-! sayings: a word, two sides -/
def SayC (K : PySem.W.Frag) (C : Addr) : Prop := ClsN K "Saying" C ["word", "left", "right"]
def SayAt (K : PySem.W.Frag) (H : Hp) (v : V) (w : Str) (l r : V) : Prop := ∃ p C dx, v = .ref p ∧ SayC K C ∧ H p = some (.ins C dx [("word", .str w), ("left", l), ("right", r)])
theorem SayAt.sm {K : PySem.W.Frag} {H H' : Hp} {v l r : V} {w : Str} (h : SayAt K H v w l r) (e : Sm H H') : SayAt K H' v w l r := by
  obtain ⟨p, C, dx, rfl, c, q⟩ := h
  exact ⟨p, C, dx, rfl, c, e _ _ q⟩
theorem SayAt.kpL {K : PySem.W.Frag} {H H' : Hp} {v l r : V} {w : Str} {b : Addr} {ys : List V} (h : SayAt K H v w l r) (hb : H b = some (.lst ys)) (e : Kp b H H') : SayAt K H' v w l r := by
  obtain ⟨p, C, dx, rfl, c, q⟩ := h
  exact ⟨p, C, dx, rfl, c, e _ _ (by intro z; rw [z, hb] at q; cases q) q⟩
theorem w_fWord {K : PySem.W.Frag} {H : Hp} {Q : VK} {v l r : V} {w : Str} (h : SayAt K H v w l r) (k : Q (.str w) H) : FldE K "word" Q v H := by
  obtain ⟨p, C, dx, rfl, c, q⟩ := h
  exact ⟨p, C, dx, _, _, rfl, q, c.cl, c.na _ (by simp), rfl, k⟩
theorem w_fLeft {K : PySem.W.Frag} {H : Hp} {Q : VK} {v l r : V} {w : Str} (h : SayAt K H v w l r) (k : Q l H) : FldE K "left" Q v H := by
  obtain ⟨p, C, dx, rfl, c, q⟩ := h
  exact ⟨p, C, dx, _, _, rfl, q, c.cl, c.na _ (by simp), rfl, k⟩
theorem w_fRight {K : PySem.W.Frag} {H : Hp} {Q : VK} {v l r : V} {w : Str} (h : SayAt K H v w l r) (k : Q r H) : FldE K "right" Q v H := by
  obtain ⟨p, C, dx, rfl, c, q⟩ := h
  exact ⟨p, C, dx, _, _, rfl, q, c.cl, c.na _ (by simp), rfl, k⟩
local macro_rules | `(tactic| tm_at "rsay") => `(tactic| first | with_reducible assumption | ((refine' SayAt.sm ?sa ?sb); (case sb => with_reducible assumption); (case sa => tm_at "rsay")) | fail "no")
local macro_rules | `(tactic| tm_at "rs") => `(tactic| first | ((with_reducible refine' w_fRight ?h ?k); (case h => tm_at "rsay")) | fail "no")
local macro_rules | `(tactic| tm_at "rs") => `(tactic| first | ((with_reducible refine' w_fLeft ?h ?k); (case h => tm_at "rsay")) | fail "no")
local macro_rules | `(tactic| tm_at "rs") => `(tactic| first | ((with_reducible refine' w_fWord ?h ?k); (case h => tm_at "rsay")) | fail "no")
/-! a stack of terms to be worked off, the top first -/
def WkOk (kvs : List (Key × V)) (g : Str → Nat) (r : Nat) : List (Tm × Bool) → List Nat → Prop
  | [], N => N = [r]
  | (t, false) :: S, N => TmOk kvs g t ∧ WkOk kvs g r S (ev g t :: N)
  | (t, true) :: S, N => ∃ (w : Str) (a b : Tm) (x y : Nat) (M : List Nat), t = .op w a b ∧ N = y :: x :: M ∧ CmOk w x y ∧ WkOk kvs g r S (cm w x y :: M)
def wk : Tm × Bool → Nat
  | (t, false) => t.wt
  | (_, true) => 1
def wks (S : List (Tm × Bool)) : Nat := (S.map wk).sum
theorem wk_pos (s : Tm × Bool) : 1 ≤ wk s := by
  obtain ⟨t, b⟩ := s
  cases b
  · exact t.wt_pos
  · exact Nat.le_refl _
theorem wks_len : ∀ S : List (Tm × Bool), S.length ≤ wks S
  | [] => Nat.le_refl _
  | s :: S => by
    have h1 := wks_len S
    have h2 := wk_pos s
    show S.length + 1 ≤ wk s + wks S
    omega
/-- what lies on the stack, the top last -/
def StAt (K : PySem.W.Frag) (H : Hp) (q : V) (s : Tm × Bool) : Prop := ∃ p x, q = .ref p ∧ H p = some (.tup [x, .bl s.2]) ∧ TmAt K H s.1 x
theorem StAt.imp {K : PySem.W.Frag} {H H' : Hp} {q : V} {s : Tm × Bool} (h : ∀ p xs, H p = some (.tup xs) → H' p = some (.tup xs)) (r : StAt K H q s) : StAt K H' q s := by
  obtain ⟨p, x, e, k, t⟩ := r
  exact ⟨p, x, e, h _ _ k, t.imp h⟩
theorem tup_kpL {H H' : Hp} {b : Addr} {ys : List V} (hb : H b = some (.lst ys)) (e : Kp b H H') : ∀ p xs, H p = some (.tup xs) → H' p = some (.tup xs) := fun p xs q => e _ _ (by
  intro z
  rw [z, hb] at q
  cases q) q
/-! sayings of the word same, terms summed -/
def SayT (K : PySem.W.Frag) (H : Hp) (v : V) (ab : Tm × Tm) : Prop := ∃ l r, SayAt K H v "same" l r ∧ TmAt K H ab.1 l ∧ TmAt K H ab.2 r
theorem SayT.sm {K : PySem.W.Frag} {H H' : Hp} {v : V} {ab : Tm × Tm} (h : SayT K H v ab) (e : Sm H H') : SayT K H' v ab := by
  obtain ⟨l, r, a, b, c⟩ := h
  exact ⟨l, r, a.sm e, b.sm e, c.sm e⟩
def TmsAt (K : PySem.W.Frag) (H : Hp) (vs : List V) (ts : List Tm) : Prop := Paired (fun v t => TmAt K H t v) vs ts
theorem TmsAt.sm {K : PySem.W.Frag} {H H' : Hp} {vs : List V} {ts : List Tm} (h : TmsAt K H vs ts) (e : Sm H H') : TmsAt K H' vs ts := paired_mono (fun _ _ q => q.sm e) h
theorem TmsAt.kpL {K : PySem.W.Frag} {H H' : Hp} {vs : List V} {ts : List Tm} {b : Addr} {ys : List V} (h : TmsAt K H vs ts) (hb : H b = some (.lst ys)) (e : Kp b H H') : TmsAt K H' vs ts := paired_mono (fun _ _ q => q.kpL hb e) h
def sumT : List Tm → Tm
  | [] => .num 0
  | t :: ts => ts.foldl (fun a b => .op "plus" a b) t
theorem sumT_add {ts : List Tm} {t : Tm} (h : ts ≠ []) : sumT (ts ++ [t]) = .op "plus" (sumT ts) t := by
  cases ts with
  | nil => exact absurd rfl h
  | cons a as =>
    show (as ++ [t]).foldl _ a = _
    rw [List.foldl_append]
    rfl
/-! sayings: a word and two terms; lists of them -/
abbrev SyW := Str × Tm × Tm
def SyAt (K : PySem.W.Frag) (H : Hp) (v : V) (s : SyW) : Prop := ∃ l r, SayAt K H v s.1 l r ∧ TmAt K H s.2.1 l ∧ TmAt K H s.2.2 r
theorem SyAt.sm {K : PySem.W.Frag} {H H' : Hp} {v : V} {s : SyW} (h : SyAt K H v s) (e : Sm H H') : SyAt K H' v s := by
  obtain ⟨l, r, a, b, c⟩ := h
  exact ⟨l, r, a.sm e, b.sm e, c.sm e⟩
theorem SyAt.kpL {K : PySem.W.Frag} {H H' : Hp} {v : V} {s : SyW} {b : Addr} {ys : List V} (h : SyAt K H v s) (hb : H b = some (.lst ys)) (e : Kp b H H') : SyAt K H' v s := by
  obtain ⟨l, r, p, q, t⟩ := h
  exact ⟨l, r, p.kpL hb e, q.kpL hb e, t.kpL hb e⟩
def SysAt (K : PySem.W.Frag) (H : Hp) (vs : List V) (ss : List SyW) : Prop := Paired (SyAt K H) vs ss
theorem SysAt.sm {K : PySem.W.Frag} {H H' : Hp} {vs : List V} {ss : List SyW} (h : SysAt K H vs ss) (e : Sm H H') : SysAt K H' vs ss := paired_mono (fun _ _ q => q.sm e) h
theorem SysAt.kpL {K : PySem.W.Frag} {H H' : Hp} {vs : List V} {ss : List SyW} {b : Addr} {ys : List V} (h : SysAt K H vs ss) (hb : H b = some (.lst ys)) (e : Kp b H H') : SysAt K H' vs ss := paired_mono (fun _ _ q => q.kpL hb e) h
theorem SysAt.len {K : PySem.W.Frag} {H : Hp} {vs : List V} {ss : List SyW} (h : SysAt K H vs ss) : vs.length = ss.length := paired_len h
theorem SysAt.app {K : PySem.W.Frag} {H : Hp} {vs us : List V} {ss ts : List SyW} (h : SysAt K H vs ss) (k : SysAt K H us ts) : SysAt K H (vs ++ us) (ss ++ ts) := paired_app h k
theorem w_newOp {K : PySem.W.Frag} {H : Hp} {Q : VK} {w : Str} {x y : V} {a b : Tm} (ha : TmAt K H a x) (hb : TmAt K H b y) (k : ∀ p H', H p = none → Sm H H' → TmAt K H' (.op w a b) (.ref p) → Q (.ref p) H') : NewT [.str w, x, y] H Q :=
  w_newT (sz_of (Nat.le_of_ble_eq_true rfl)) fun p H' np sm g => k p H' np sm (tm_op g (ha.sm sm) (hb.sm sm))
theorem w_newS1 {K : PySem.W.Frag} {H : Hp} {Q : VK} {x : V} {s : SyW} (hs : SyAt K H x s) (k : ∀ p H' vs, H p = none → Sm H H' → H' p = some (.lst vs) → SysAt K H' vs [s] → vs.length = 1 → Q (.ref p) H') : NewL [x] H Q :=
  w_newL (sz_of (Nat.le_of_ble_eq_true rfl)) fun p H' np sm g => k p H' _ np sm g (.cons (hs.sm sm) .nil) rfl
theorem w_newS2 {K : PySem.W.Frag} {H : Hp} {Q : VK} {x y : V} {s t : SyW} (hs : SyAt K H x s) (ht : SyAt K H y t) (k : ∀ p H' vs, H p = none → Sm H H' → H' p = some (.lst vs) → SysAt K H' vs [s, t] → vs.length = 2 → Q (.ref p) H') : NewL [x, y] H Q :=
  w_newL (sz_of (Nat.le_of_ble_eq_true rfl)) fun p H' np sm g => k p H' _ np sm g (.cons (hs.sm sm) (.cons (ht.sm sm) .nil)) rfl
theorem w_appS {K : PySem.W.Frag} {H : Hp} {Q : VK} {l : Addr} {xs : List V} {ss : List SyW} {x : V} {s : SyW} (h : H l = some (.lst xs)) (hS : SysAt K H xs ss) (hs : SyAt K H x s) (z : xs.length ≤ 10000) (k : ∀ H' vs, Kp l H H' → H' l = some (.lst vs) → SysAt K H' vs (ss ++ [s]) → vs.length = xs.length + 1 → Q .non H') : rAppend (.ref l) [x] H Q :=
  w_app h (sz_lt (by omega)) fun H' kp g => k H' _ kp g ((hS.app (.cons hs .nil)).kpL h kp) (by rw [List.length_append]; rfl)
theorem w_extS {K : PySem.W.Frag} {H : Hp} {Q : VK} {l b : Addr} {xs ys : List V} {ss ts : List SyW} (h : H l = some (.lst xs)) (hS : SysAt K H xs ss) (hb : H b = some (.lst ys)) (hT : SysAt K H ys ts) (z : xs.length + ys.length ≤ 10000) (k : ∀ H' vs, Kp l H H' → H' l = some (.lst vs) → SysAt K H' vs (ss ++ ts) → vs.length = xs.length + ys.length → Q .non H') : rExtend (.ref l) [.ref b] H Q :=
  w_ext h hb (sz_of (by omega)) fun H' kp g => k H' _ kp g ((hS.app hT).kpL h kp) (by rw [List.length_append])
theorem w_catS {K : PySem.W.Frag} {H : Hp} {Q : VK} {l b : Addr} {xs ys : List V} {ss ts : List SyW} (h : H l = some (.lst xs)) (hS : SysAt K H xs ss) (hb : H b = some (.lst ys)) (hT : SysAt K H ys ts) (z : xs.length + ys.length ≤ 10000) (k : ∀ p H' vs, H p = none → Sm H H' → H' p = some (.lst vs) → SysAt K H' vs (ss ++ ts) → vs.length = xs.length + ys.length → Q (.ref p) H') : gAdd K (.ref l) (.ref b) H Q :=
  w_addL h hb (sz_of (by omega)) fun p H' np sm g => k p H' _ np sm g ((hS.app hT).sm sm) (by rw [List.length_append])
def NumAt (H : Hp) (n : Nat) (v : V) : Prop := ∀ K, TmAt K H (.num n) v
theorem NumAt.tm {K : PySem.W.Frag} {H : Hp} {n : Nat} {v : V} (h : NumAt H n v) : TmAt K H (.num n) v := h K
theorem w_newNu {H : Hp} {Q : VK} {n : Nat} (k : ∀ p H', H p = none → Sm H H' → NumAt H' n (.ref p) → Q (.ref p) H') : NewT [.str "num", .int ((n : Nat) : Int)] H Q :=
  w_newT (sz_of (Nat.le_of_ble_eq_true rfl)) fun p H' np sm g => k p H' np sm fun _ => tm_num g
theorem w_newNu1 {H : Hp} {Q : VK} {n : Nat} (k : ∀ p H', H p = none → Sm H H' → NumAt H' (n + 1) (.ref p) → Q (.ref p) H') : NewT [.str "num", .int ((n : Nat) + 1 : Int)] H Q :=
  w_newT (sz_of (Nat.le_of_ble_eq_true rfl)) fun p H' np sm g => k p H' np sm fun _ => tm_num g
local macro_rules | `(tactic| tm_at "rtm") => `(tactic| first | ((refine' NumAt.tm ?sa); (case sa => with_reducible assumption)) | fail "no")
local macro_rules | `(tactic| tm_at "rsy") => `(tactic| first | with_reducible assumption | ((refine' SyAt.sm ?sa ?sb); (case sb => with_reducible assumption); (case sa => tm_at "rsy")) | ((refine' SyAt.kpL ?sa ?sc ?sb); (case sb => with_reducible assumption); (case sc => tm_at "rlk"); (case sa => tm_at "rsy")) | fail "no")
local macro_rules | `(tactic| tm_at "rss") => `(tactic| first | with_reducible assumption | ((refine' SysAt.sm ?sa ?sb); (case sb => with_reducible assumption); (case sa => tm_at "rss")) | ((refine' SysAt.kpL ?sa ?sc ?sb); (case sb => with_reducible assumption); (case sc => tm_at "rlk"); (case sa => tm_at "rss")) | fail "no")
local macro_rules | `(tactic| tm_at "rs") => `(tactic| first | ((with_reducible refine' w_catS ?h ?i ?j ?l ?m (fun _ _ _ _ _ _ _ _ => ?k)); (case h => tm_at "rlk"); (case i => tm_at "rss"); (case j => tm_at "rlk"); (case l => tm_at "rss"); (case m => omega)) | fail "no")
local macro_rules | `(tactic| tm_at "rs") => `(tactic| first | ((with_reducible refine' w_extS ?h ?i ?j ?l ?m (fun _ _ _ _ _ _ => ?k)); (case h => tm_at "rlk"); (case i => tm_at "rss"); (case j => tm_at "rlk"); (case l => tm_at "rss"); (case m => omega)) | fail "no")
local macro_rules | `(tactic| tm_at "rs") => `(tactic| first | ((with_reducible refine' w_appS ?h ?i ?j ?l (fun _ _ _ _ _ _ => ?k)); (case h => tm_at "rlk"); (case i => tm_at "rss"); (case j => tm_at "rsy"); (case l => omega)) | fail "no")
local macro_rules | `(tactic| tm_at "rs") => `(tactic| first | ((with_reducible refine' w_newS2 ?h ?i (fun _ _ _ _ _ _ _ _ => ?k)); (case h => tm_at "rsy"); (case i => tm_at "rsy")) | fail "no")
local macro_rules | `(tactic| tm_at "rs") => `(tactic| first | ((with_reducible refine' w_newS1 ?h (fun _ _ _ _ _ _ _ _ => ?k)); (case h => tm_at "rsy")) | fail "no")
local macro_rules | `(tactic| tm_at "rs") => `(tactic| first | with_reducible refine w_newNu (fun _ _ _ _ _ => ?_) | fail "no")
local macro_rules | `(tactic| tm_at "rs") => `(tactic| first | with_reducible refine w_newNu1 (fun _ _ _ _ _ => ?_) | fail "no")
local macro_rules | `(tactic| tm_at "rs") => `(tactic| first | ((with_reducible refine' w_newOp ?h ?i (fun _ _ _ _ _ => ?k)); (case i => tm_at "rtm"); (case h => tm_at "rtm")) | fail "no")
local macro_rules | `(tactic| tm_at "rs") => `(tactic| first | ((with_reducible refine' w_newOp ?h ?i (fun _ _ _ _ _ => ?k)); (case h => tm_at "rtm"); (case i => tm_at "rtm")) | fail "no")
theorem nV_gt {l : List Nat} {i : Nat} {x : V} (h : (nV l)[i]? = some x) : ∃ n : Nat, l[i]? = some n ∧ x = .int (n : Nat) := by
  unfold nV at h
  rw [List.getElem?_map] at h
  cases e : l[i]? with
  | none => rw [e] at h; cases h
  | some n => rw [e] at h; exact ⟨n, rfl, (Option.some.inj h).symm⟩
theorem SysAt.one {K : PySem.W.Frag} {H : Hp} {xs : List V} {ss : List SyW} {x : V} {s : SyW} (h : SysAt K H xs ss) (k : SyAt K H x s) : SysAt K H (xs ++ [x]) (ss ++ [s]) := h.app (.cons k .nil)
/-! what is said of a program -/
def pwAt (t : Tm) : Tm := .op "power" (.num 2) (.op "times" (.name "c") t)
def topT : Tm := pwAt (.op "plus" (.name "s") (.num 1))
def lsT (ks : List Nat) : List Tm := ks.map fun k => .name (nmS "l" k)
def same (a b : Tm) : SyW := (Str.ofString "same", a, b)
def undr (a b : Tm) : SyW := (Str.ofString "under", a, b)
def baseS (m n : Nat) : List SyW := [same (.name "h") (.op "plus" (.op "plus" (sumT ((List.range m).map fun j => .name (nmS "x" j))) (.num 1)) (.name "d")),
  same (.name "q") (.op "times" (.num 2) (.name "h")), same (.name "q") (.op "power" (.num 2) (.name "c")), same (.name "q") (.op "plus" (.num (n + 1)) (.name "g")),
  same (.op "plus" (.op "times" (.name "q") (.name "i")) (.num 1)) (.op "plus" topT (.name "i")), same (.op "plus" (.name "m") (.name "i")) (.op "times" (.name "h") (.name "i"))]
def stpK (rs : List Rw) (n : Nat) : List Nat := (List.range n).filter fun k => decide (rs[k]? = some .st)
def timeS (m : Nat) (rs : List Rw) : List SyW := (List.range m).map (fun j => undr (.name (nmS "r" j)) (.name "m")) ++ (List.range rs.length).map (fun k => undr (.name (nmS "l" k)) (.name "i")) ++
  [same (sumT (lsT (List.range rs.length))) (.name "i")] ++ [undr (.num 1) (.name (nmS "l" 0))] ++ [same (sumT (lsT (stpK rs rs.length))) (pwAt (.name "s"))] ++
  (asked m rs).map fun j => same (.op "plus" (.name (nmS "e" j)) (.op "times" (.num 2) (.name (nmS "r" j)))) (.op "times" (.name "q") (.name "i"))
def rowS (rs : List Rw) (k : Nat) : List SyW := match rs[k]? with
  | some .st => []
  | some (.go g) => [undr (.op "times" (.name "q") (.name (nmS "l" k))) (.name (nmS "l" g))]
  | some (.br j g) => if g = k + 1 then [undr (.op "times" (.name "q") (.name (nmS "l" k))) (.name (nmS "l" (k + 1)))]
    else [undr (.op "times" (.name "q") (.name (nmS "l" k))) (.op "plus" (.name (nmS "l" g)) (.name (nmS "l" (k + 1)))), undr (.op "times" (.name "q") (.name (nmS "l" k))) (.op "plus" (.name (nmS "l" (k + 1))) (.name (nmS "e" j)))]
  | some _ => [undr (.op "times" (.name "q") (.name (nmS "l" k))) (.name (nmS "l" (k + 1)))]
  | none => []
def boxS (rs : List Rw) (j : Nat) : SyW := same (.op "plus" (.op "times" (.name "q") (.op "plus" (.name (nmS "r" j)) (sumT (lsT (plc rs (.up j) rs.length))))) (.name (nmS "x" j)))
  (.op "plus" (.op "plus" (.name (nmS "r" j)) (.op "times" (.name "q") (sumT (lsT (plc rs (.dn j) rs.length))))) (.op "times" topT (.name (nmS "y" j))))
def rowsS (rs : List Rw) (n : Nat) : List SyW := ((List.range n).map (rowS rs)).flatten
def sysOf (m : Nat) (rs : List Rw) : List SyW := baseS m rs.length ++ timeS m rs ++ rowsS rs rs.length ++ (List.range m).map (boxS rs)
theorem asked_le (m : Nat) (rs : List Rw) : (asked m rs).length ≤ m := by
  have := List.length_filter_le (fun j => askB rs j rs.length) (List.range m)
  rw [List.length_range] at this
  exact this
theorem baseS_len (m n : Nat) : (baseS m n).length = 6 := rfl
theorem timeS_len (m : Nat) (rs : List Rw) : (timeS m rs).length = m + rs.length + 3 + (asked m rs).length := by
  unfold timeS
  simp only [List.length_append, List.length_map, List.length_range, List.length_singleton]
theorem rowS_len (rs : List Rw) (k : Nat) : (rowS rs k).length ≤ 2 := by
  unfold rowS
  split
  all_goals first | exact Nat.zero_le _ | (show 1 ≤ 2; decide) | (split <;> first | (show 1 ≤ 2; decide) | exact Nat.le_refl _)
theorem rowsS_succ (rs : List Rw) (n : Nat) : rowsS rs (n + 1) = rowsS rs n ++ rowS rs n := by
  unfold rowsS
  rw [List.range_succ, List.map_append, List.flatten_append]
  simp
theorem rowsS_len (rs : List Rw) : ∀ n, (rowsS rs n).length ≤ 2 * n
  | 0 => Nat.le_refl _
  | n + 1 => by
    rw [rowsS_succ, List.length_append]
    have := rowsS_len rs n
    have := rowS_len rs n
    omega
theorem stpK_succ {rs : List Rw} {n : Nat} : stpK rs (n + 1) = stpK rs n ++ (if rs[n]? = some .st then [n] else []) := by
  unfold stpK
  rw [List.range_succ, List.filter_append]
  by_cases h : rs[n]? = some .st
  · rw [if_pos h, List.filter_cons_of_pos (by rw [decide_eq_true h]), List.filter_nil]
  · rw [if_neg h, List.filter_cons_of_neg (by rw [decide_eq_false h]; exact Bool.false_ne_true), List.filter_nil]
theorem stpK_len (rs : List Rw) (n : Nat) : (stpK rs n).length ≤ n := by
  have := List.length_filter_le (fun k => decide (rs[k]? = some Rw.st)) (List.range n)
  rw [List.length_range] at this
  exact this
theorem plc_len (rs : List Rw) (q : Rw) (n : Nat) : (plc rs q n).length ≤ n := by
  have := List.length_filter_le (fun k => decide (rs[k]? = some q)) (List.range n)
  rw [List.length_range] at this
  exact this
theorem lsT_len (ks : List Nat) : (lsT ks).length = ks.length := List.length_map _
/-! terms as data: alike, shown -/
/-- names and words are plain texts -/
def TmL : Tm → Prop
  | .num _ => True
  | .name s => PyData.strOk s = true
  | .op w a b => PyData.strOk w = true ∧ TmL a ∧ TmL b
/-! long sums shown -/
def TmX : Tm → Prop
  | .num n => n < 10 ^ 12
  | .name s => PyData.strOk s = true ∧ s.length ≤ 20
  | .op w a b => (PyData.strOk w = true ∧ w.length ≤ 20) ∧ TmX a ∧ TmX b
theorem TmX.l : ∀ {t : Tm}, TmX t → TmL t
  | .num _, _ => trivial
  | .name _, h => h.1
  | .op _ _ _, ⟨h1, h2, h3⟩ => ⟨h1.1, h2.l, h3.l⟩
structure Shb (d : PyData) (N : Nat) : Prop where
  sh : d.showable = true
  nd : d.hasDict = false
  lv : d.leavesShort 20 = true
  bk : d.bulk ≤ N
theorem Shb.up {d : PyData} {n m : Nat} (h : Shb d n) (l : n ≤ m) : Shb d m := ⟨h.sh, h.nd, h.lv, Nat.le_trans h.bk l⟩
/-! lists of terms: shown, added, made longer -/
theorem TmsAt.one {K : PySem.W.Frag} {H : Hp} {vs : List V} {ts : List Tm} {v : V} {t : Tm} (h : TmsAt K H vs ts) (e : TmAt K H t v) : TmsAt K H (vs ++ [v]) (ts ++ [t]) := paired_app h (.cons e .nil)
theorem TmsAt.len {K : PySem.W.Frag} {H : Hp} {vs : List V} {ts : List Tm} (h : TmsAt K H vs ts) : vs.length = ts.length := paired_len h
theorem TmsAt.get {K : PySem.W.Frag} {H : Hp} {vs : List V} {ts : List Tm} (h : TmsAt K H vs ts) {i : Nat} {t : Tm} (e : ts[i]? = some t) : ∃ v, atI vs (i : Nat) = some v ∧ TmAt K H t v := by
  have hi := (List.getElem?_eq_some_iff.mp e).1
  have hv : i < vs.length := by rw [paired_len h]; exact hi
  obtain ⟨t', ht, q⟩ := paired_get h (List.getElem?_eq_getElem hv)
  rw [e] at ht
  cases ht
  exact ⟨_, atI_nat (List.getElem?_eq_getElem hv), q⟩
theorem w_newM1 {K : PySem.W.Frag} {H : Hp} {Q : VK} {x : V} {s : Tm} (hs : TmAt K H s x) (k : ∀ p H', H p = none → Sm H H' → H' p = some (.lst [x]) → TmsAt K H' [x] [s] → Q (.ref p) H') : NewL [x] H Q :=
  w_newL (sz_of (Nat.le_of_ble_eq_true rfl)) fun p H' np sm g => k p H' np sm g (.cons (hs.sm sm) .nil)
theorem w_newM2 {K : PySem.W.Frag} {H : Hp} {Q : VK} {x y : V} {s t : Tm} (hs : TmAt K H s x) (ht : TmAt K H t y) (k : ∀ p H', H p = none → Sm H H' → H' p = some (.lst [x, y]) → TmsAt K H' [x, y] [s, t] → Q (.ref p) H') : NewL [x, y] H Q :=
  w_newL (sz_of (Nat.le_of_ble_eq_true rfl)) fun p H' np sm g => k p H' np sm g (.cons (hs.sm sm) (.cons (ht.sm sm) .nil))
theorem w_appM {K : PySem.W.Frag} {H : Hp} {Q : VK} {l : Addr} {xs : List V} {ss : List Tm} {x : V} {s : Tm} (h : H l = some (.lst xs)) (hS : TmsAt K H xs ss) (hs : TmAt K H s x) (z : xs.length ≤ 10000) (k : ∀ H', Kp l H H' → H' l = some (.lst (xs ++ [x])) → TmsAt K H' (xs ++ [x]) (ss ++ [s]) → Q .non H') : rAppend (.ref l) [x] H Q :=
  w_app h (sz_lt (by omega)) fun H' kp g => k H' kp g ((hS.one hs).kpL h kp)
theorem w_catM {K : PySem.W.Frag} {H : Hp} {Q : VK} {l b : Addr} {xs ys : List V} {ss ts : List Tm} (h : H l = some (.lst xs)) (hS : TmsAt K H xs ss) (hb : H b = some (.lst ys)) (hT : TmsAt K H ys ts) (z : xs.length + ys.length ≤ 10000) (k : ∀ p H', H p = none → Sm H H' → H' p = some (.lst (xs ++ ys)) → TmsAt K H' (xs ++ ys) (ss ++ ts) → Q (.ref p) H') : gAdd K (.ref l) (.ref b) H Q :=
  w_addL h hb (sz_of (by omega)) fun p H' np sm g => k p H' np sm g ((show TmsAt K H (xs ++ ys) (ss ++ ts) from paired_app hS hT).sm sm)
theorem w_ixM {K : PySem.W.Frag} {H : Hp} {Q : VK} {p : Addr} {xs : List V} {ts : List Tm} {i : Nat} {t : Tm} (h : H p = some (.lst xs)) (hT : TmsAt K H xs ts) (e : ts[i]? = some t) (k : ∀ v, TmAt K H t v → Q v H) : rIx K (.ref p) (.int (i : Nat)) H Q := by
  obtain ⟨v, a, q⟩ := hT.get e
  exact w_ixL (sq_of h) a (k v q)
local macro_rules | `(tactic| tm_at "rms") => `(tactic| first | with_reducible assumption | ((refine' TmsAt.sm ?sa ?sb); (case sb => with_reducible assumption); (case sa => tm_at "rms")) | ((refine' TmsAt.kpL ?sa ?sc ?sb); (case sb => with_reducible assumption); (case sc => tm_at "rlk"); (case sa => tm_at "rms")) | fail "no")
local macro_rules | `(tactic| tm_at "rs") => `(tactic| first | ((with_reducible refine' w_catM ?h ?i ?j ?l ?m (fun _ _ _ _ _ _ => ?k)); (case h => tm_at "rlk"); (case i => tm_at "rms"); (case j => tm_at "rlk"); (case l => tm_at "rms"); (case m => first | omega | (simp only [List.length_cons, List.length_nil, List.length_append]; omega))) | fail "no")
local macro_rules | `(tactic| tm_at "rs") => `(tactic| first | ((with_reducible refine' w_appM ?h ?i ?j ?l (fun _ _ _ _ => ?k)); (case h => tm_at "rlk"); (case i => tm_at "rms"); (case j => tm_at "rtm"); (case l => first | omega | (simp only [List.length_cons, List.length_nil, List.length_append]; omega))) | fail "no")
local macro_rules | `(tactic| tm_at "rs") => `(tactic| first | ((with_reducible refine' w_newM2 ?h ?i (fun _ _ _ _ _ _ => ?k)); (case h => tm_at "rtm"); (case i => tm_at "rtm")) | fail "no")
local macro_rules | `(tactic| tm_at "rs") => `(tactic| first | ((with_reducible refine' w_newM1 ?h (fun _ _ _ _ _ _ => ?k)); (case h => tm_at "rtm")) | fail "no")
/-- [f(x) for x in a list of terms] -/
theorem lcMs {K : PySem.W.Frag} {σ : L2.St} {H : Hp} {Q : VK} {p : Addr} {xs : List V} {ts : List Tm} {F : Tm → Tm} {j : Nat} {vs : List Nat} {te : TE} (hp : H p = some (.lst xs)) (hx : TmsAt K H xs ts) (hl : xs.length ≤ 1000)
    (hs : ∀ (x : V) (t : Tm) (D : Addr) (H' : Hp) (zs : List V) (R : Hp → Prop), Sm H H' → TmAt K H' t x → H' D = some (.lst zs) → zs.length ≤ 1000 → (∀ y H2, Sm H' H2 → TmAt K H2 (F t) y → LcEnd D y R H2) → LcGo vs σ ((wipe σ vs).set j (some x)) (te ((wipe σ vs).set j (some x)) H' fun y H4 => LcEnd D y R H4))
    (k : ∀ q zs H', H q = none → Sm H H' → H' q = some (.lst zs) → TmsAt K H' zs (ts.map F) → zs.length = xs.length → Q (.ref q) H') : LcL (Itl K p) (gName j) tYes te vs σ H Q := by
  refine lcLs (xs := xs) (fun D i H' => ∃ zs, H' D = some (.lst zs) ∧ TmsAt K H' zs ((ts.take i).map F) ∧ zs.length = i ∧ Sm H H') (fun D H' nD sm hD => ⟨[], hD, .nil, rfl, sm⟩) (fun D i H' nD hi h => by obtain ⟨zs, _, _, _, sm⟩ := h; exact sq_of (sm _ _ hp)) ?_ ?_
  · rintro D i x H' nD hi ⟨zs, hD, hz, hzl, sm⟩
    obtain ⟨t, ht, hxt⟩ := paired_get hx hi
    have hil := (List.getElem?_eq_some_iff.mp hi).1
    have htk : ts.take (i + 1) = ts.take i ++ [t] := by rw [List.take_succ, ht]; rfl
    refine w_gname ?_
    refine hs x t D H' zs _ sm (hxt.sm sm) hD (by omega) (fun y H2 s2 ty => ?_)
    refine w_lcEnd (s2 _ _ hD) (sz_lt (by omega)) (fun H3 k3 g3 => ?_)
    refine ⟨_, g3, ?_, by rw [List.length_append, hzl]; rfl, sm_mut (sm.trans s2) (Same.free (Same.refl _) nD) k3⟩
    rw [htk, List.map_append]
    exact ((TmsAt.sm hz s2).one ty).kpL (s2 _ _ hD) k3
  · rintro D H' nD ⟨zs, hD, hz, hzl, sm⟩
    rw [paired_len hx, List.take_length] at hz
    exact k D zs H' nD sm hD hz hzl
/-- a saying as a term of three -/
def opS (s : SyW) : Tm := .op s.1 s.2.1 s.2.2
/-! list(a text) -/
section
open PySem
variable {prog : Program} {w : World} {A : Around} {E : Value → Shared → Prop} {s : Shared}
theorem list_text_init {R : Result → Shared → Prop} (hh : A.handled = none) (x : Str) (t : Tok) (S : Addr) (hS : s.heap.get? S = some { cls := .type "list", data := .seq #[] }) (hn : x.cps.size ≤ sizeLine)
    (hR : ∀ h' tk acc' c', (∀ b o, b ≠ S → s.heap.get? b = some o → h'.get? b = some o) → h'.get? S = some { cls := .type "list", dict := none, data := .seq acc' c', slots := #[] } → ItemsOf (SignAt x) acc' x.cps.size → R (.ok (.ret .none)) { s with heap := h', toks := tk }) :
    wpAny (model prog w) A.in1 (Builtin.«list.__init__» ⟨[.ref S, .str x t], []⟩)
      (fun fin s' => match fin with | .done f => R (.ok f) s' | .again c' => c'.quiet = true ∧ codeAny (model prog w) A c' R s') (fun e s' => R (.error e) s') s := by
  show wpAny _ _ (do let old ← Builtin.List.listItems (.ref S); Builtin.List.listUpdate (.ref S) (fun _ => #[]); letGo old.toList.reverse; Builtin.List.listExtendWith (.ref S) (.str x t) .none) _ _ s
  refine wpAny_bind ?_
  unfold Builtin.List.listItems
  refine wpAny_bind (wpAny_seqItems hS rfl (wpAny_pure ?_))
  show wpAny _ _ (updateSeq S (fun _ => #[]) >>= fun _ => letGo (#[] : Array Value).toList.reverse >>= fun _ => Builtin.List.listExtendWith (.ref S) (.str x t) .none) _ _ s
  refine wpAny_bind (wpAny_updateSeq hS rfl ?_)
  have hS₂ := Heap.get?_update_self (Obj.mapSeq (fun _ => (#[] : Array Value))) hS rfl
  have oth : ∀ b o, b ≠ S → s.heap.get? b = some o → (s.heap.update S (Obj.mapSeq (fun _ => (#[] : Array Value)))).get? b = some o :=
    fun b o hb e => (Heap.get?_update_other _ _ (Ne.symm hb)).trans e
  refine wpAny_bind (wpAny_letGo ?_)
  generalize hH : s.heap.update S (Obj.mapSeq (fun _ => (#[] : Array Value))) = H at hS₂ oth ⊢
  unfold Builtin.List.listExtendWith
  refine wpAny_bind (wpAny_typeOf (T := "str") (v := .str x t) rfl ?_)
  have h1 : Builtin.List.listSameRef (.ref S) (.str x t) = false := rfl
  have h2 : (Value.type "str" == Value.type "list") = false := by decide
  have h3 : (Value.type "str" == Value.type "tuple") = false := by decide
  simp only [h1, h2, h3, Bool.or_false, Bool.false_eq_true, if_false]
  refine wpAny_bind (wpAny_pyIter_str fun o St W hst => ?_)
  refine wpAny_bind (wpAny_holding ?_)
  unfold Builtin.List.listLengthHint
  refine wpAny_bind (wpAny_specialOf (T := "str") (v := .str x t) rfl PySem.F.str_len ?_)
  wp_delta
  refine wpAny_bind (wpAny_isInstance (T := "str") (v := .str x t) (b := true) rfl (by rw [isSubtype_type]; kernel_rfl) ?_)
  show wpAny _ A.in1 (typeOf (Value.str x t) >>= _) _ _ _
  refine wpAny_bind (wpAny_typeOf (T := "str") (v := .str x t) rfl ?_)
  refine wpAny_pure ?_
  rw [if_neg (by decide)]
  have hlt := Heap.lt_size hS₂
  have hSf : S ∉ [H.objs.size] := fun hm => by rw [List.mem_singleton.mp hm] at hlt; exact absurd hlt (Nat.lt_irrefl _)
  have hS3 := Heap.get?_push_of_some o hS₂
  refine wpAny_pure ⟨plainId_quiet PySem.F.plain_extend_loop _, codeAny_extend_loopS (W A.in1 hh).toS hn _ hSf _ x.cps.size 0 _ _ _ rfl (Nat.zero_le _) hst hS3 (ItemsOf.nil _) fun s' acc' c' hm hS' hacc => ?_⟩
  rw [Moved.eq_with hm]
  refine hR s'.heap s'.toks acc' c' (fun b ob hb e => hm.heap b ob (fun hmem => ?_) (Heap.get?_push_of_some _ (oth b ob hb e))) hS' hacc
  rcases List.mem_cons.mp hmem with h | h
  · exact hb h
  · have := Heap.lt_size (oth b ob hb e)
    rw [List.mem_singleton.mp h] at this
    exact absurd this (Nat.lt_irrefl _)
theorem list_text {Q : Value → Shared → Prop} (hh : A.handled = none) (x : Str) (t : Tok) (hn : x.cps.size ≤ sizeLine)
    (hQ : ∀ h' tk acc' c', (∀ b o, s.heap.get? b = some o → h'.get? b = some o) → h'.get? s.heap.objs.size = some { cls := .type "list", dict := none, data := .seq acc' c', slots := #[] } → ItemsOf (SignAt x) acc' x.cps.size → Q (.ref s.heap.objs.size) { s with heap := h', toks := tk }) :
    wpAny (model prog w) A (call (.type "list") [.str x t]) Q E s := by
  refine callType_codes (Q₁ := fun obj s₁ => obj = .ref s.heap.objs.size ∧ s₁ = { s with heap := s.heap.push { cls := .type "list", data := .seq #[] } }) PySem.F.called_list (PySem.F.typeCall_list_1 _) PySem.F.entry_list_init
    (code_list_new _ ⟨rfl, rfl⟩) fun obj s₁ h₁ => ?_
  obtain ⟨rfl, rfl⟩ := h₁
  have hS : (s.heap.push { cls := .type "list", data := .seq #[] }).get? s.heap.objs.size = some { cls := .type "list", data := .seq #[] } := Heap.get?_push_size _ rfl
  refine ⟨⟨_, hS, rfl⟩, PySem.F.args_list_init_2 _ _, list_text_init (A := A.in1) hh x t _ hS hn (fun h' tk acc' c' hk hS' hacc => ?_)⟩
  exact ⟨rfl, hQ h' tk acc' c' (fun b o e => hk b o (Nat.ne_of_lt (Heap.lt_size e)) (Heap.get?_push_of_some _ e)) hS' hacc⟩
end
theorem vals_of_get : ∀ {xs : List V} {us : List Value}, xs.length = us.length → (∀ (j : Nat) (u : Value), us[j]? = some u → ∃ x, xs[j]? = some x ∧ RelV x u) → Vals xs us
  | [], [], _, _ => .nil
  | [], u :: us, h, _ => by cases h
  | x :: xs, [], h, _ => by cases h
  | x :: xs, u :: us, h, k => by
    obtain ⟨y, e, r⟩ := k 0 u rfl
    have e : x = y := Option.some.inj e
    subst e
    exact .cons r (vals_of_get (Nat.succ.inj h) fun j v hv => k (j + 1) v hv)
def sgV (z : Str) : List V := z.cps.toList.map fun c => V.str ⟨#[c]⟩
def gLstX (K : PySem.W.Frag) : List V → Hp → VK → Prop := fun xs H Q => gLst K xs H Q ∨ ∃ z, xs = [.str z] ∧ z.cps.size ≤ sizeLine ∧ ∀ l, H l = none → Q (.ref l) (upd H l (.lst (sgV z)))
theorem call_gLstX {X : Cx} {K : PySem.W.Frag} (hK : X.K = K) (hc : X.calm = true) : CallR X (.type "list") (gLstX K) := by
  refine cr_or (call_gList hK) ?_
  intro pins s σ H xs us Q I r h
  obtain ⟨z, rfl, hz, q⟩ := h
  obtain ⟨u, rfl, t, rfl⟩ := vals1 r
  refine list_text (I.ok.hd hc) z t hz fun h' tk acc' c' hk hS hacc => ?_
  obtain ⟨hl, hi⟩ := hacc
  have hv : Vals (sgV z) acc'.toList := by
    refine vals_of_get (by unfold sgV; rw [List.length_map, Array.length_toList, Array.length_toList, hl]) fun j v hj => ?_
    rw [Array.getElem?_toList] at hj
    obtain ⟨c, u, hc, rfl⟩ := hi j v hj
    refine ⟨.str ⟨#[c]⟩, ?_, u, rfl⟩
    unfold sgV
    rw [List.getElem?_map, Array.getElem?_toList, hc]
    rfl
  exact ⟨.ref s.heap.objs.size, _, I.laid (t' := tk) hk (Nat.le_refl _) (show ObjOk X.prog X.w _ h' _ (.lst (sgV z)) from ⟨by unfold sgV; rw [List.length_map, Array.length_toList]; exact hz, acc'.toList, c', hv, by simpa using hS⟩), rfl, q _ (I.hok.fresh (Nat.le_refl _))⟩
theorem w_lstX {K : PySem.W.Frag} {H : Hp} {Q : VK} {z : Str} (hz : z.cps.size ≤ 10000) (k : ∀ l H', H l = none → Sm H H' → H' l = some (.lst (sgV z)) → Q (.ref l) H') : gLstX K [.str z] H Q :=
  .inr ⟨z, rfl, sz_of (by omega), fun l nl => k l _ nl (sm_new nl) upd_same⟩
/-! a program's names -/
def nm8 : List Str := ["s", "c", "h", "d", "q", "g", "i", "m"].map Str.ofString
def namesL (m n : Nat) (es : List Nat) : List Str := ((List.range m).map (nmS (Str.ofString "x")) ++ (List.range m).map (nmS (Str.ofString "y"))) ++ nm8 ++ (List.range m).map (nmS (Str.ofString "r")) ++ (List.range n).map (nmS (Str.ofString "l")) ++ es.map (nmS (Str.ofString "e"))
/-! two sorted lists of the same texts are alike -/
/-! sorted(list of texts), sorted(dict with text keys) -/
/-! all the parts of a term, with how deep each stands -/
/-- no sign of a step is that of a number or a name -/
def Tm.opw : Tm → Prop
  | .op w a b => w ≠ Str.ofString "num" ∧ w ≠ Str.ofString "name" ∧ a.opw ∧ b.opw
  | _ => True
def allT : Tm → Nat → List (Tm × Nat)
  | .op w a b, d => (.op w a b, d) :: (allT a (d + 1) ++ allT b (d + 1))
  | .num n, d => [(.num n, d)]
  | .name s, d => [(.name s, d)]
def PtAt (K : PySem.W.Frag) (H : Hp) (q : V) (s : Tm × Nat) : Prop := ∃ p x, q = .ref p ∧ H p = some (.tup [x, .int ((s.2 : Nat) : Int)]) ∧ TmAt K H s.1 x
theorem PtAt.imp {K : PySem.W.Frag} {H H' : Hp} {q : V} {s : Tm × Nat} (h : Tk H H') (r : PtAt K H q s) : PtAt K H' q s := by
  obtain ⟨p, x, e, k, t⟩ := r
  exact ⟨p, x, e, h _ _ k, t.imp h⟩
theorem PtAt.sm {K : PySem.W.Frag} {H H' : Hp} {q : V} {s : Tm × Nat} (r : PtAt K H q s) (e : Sm H H') : PtAt K H' q s := r.imp (Tk.sm e)
/-! the names that stand in a program's sayings are the program's names -/
def Tm.nms : Tm → List Str
  | .num _ => []
  | .name z => [z]
  | .op _ a b => a.nms ++ b.nms
/-- the names among parts, in order -/
def nmsP : List (Tm × Nat) → List Str
  | [] => []
  | (.name z, _) :: S => z :: nmsP S
  | _ :: S => nmsP S
theorem nmsP_app : ∀ (S T : List (Tm × Nat)), nmsP (S ++ T) = nmsP S ++ nmsP T
  | [], _ => rfl
  | (.name z, d) :: S, T => by
    show z :: nmsP (S ++ T) = z :: (nmsP S ++ nmsP T)
    rw [nmsP_app S T]
  | (.num n, d) :: S, T => nmsP_app S T
  | (.op w a b, d) :: S, T => nmsP_app S T
theorem nmsP_all : ∀ (t : Tm) (d : Nat), nmsP (allT t d) = t.nms
  | .num _, _ => rfl
  | .name _, _ => rfl
  | .op w a b, d => by
    show nmsP (allT a (d + 1) ++ allT b (d + 1)) = a.nms ++ b.nms
    rw [nmsP_app, nmsP_all a, nmsP_all b]
/-- the names that stand in a saying, in sayings -/
def nmSay (s : SyW) : List Str := nmsP (allT s.2.1 0 ++ allT s.2.2 0)
theorem nmSay_eq (s : SyW) : nmSay s = s.2.1.nms ++ s.2.2.nms := by
  unfold nmSay
  rw [nmsP_app, nmsP_all, nmsP_all]
def nmSys (ss : List SyW) : List Str := ss.flatMap nmSay
theorem mem_nmSys {ss : List SyW} {z : Str} : z ∈ nmSys ss ↔ ∃ s ∈ ss, z ∈ s.2.1.nms ∨ z ∈ s.2.2.nms := by
  unfold nmSys
  rw [List.mem_flatMap]
  constructor
  · rintro ⟨s, hs, h⟩
    rw [nmSay_eq, List.mem_append] at h
    exact ⟨s, hs, h⟩
  · rintro ⟨s, hs, h⟩
    exact ⟨s, hs, by rw [nmSay_eq, List.mem_append]; exact h⟩
theorem mem_foldT {z : Str} : ∀ (ts : List Tm) (a : Tm), z ∈ (ts.foldl (fun a b => Tm.op "plus" a b) a).nms ↔ z ∈ a.nms ∨ ∃ t ∈ ts, z ∈ t.nms
  | [], a => by simp
  | t :: ts, a => by
    rw [List.foldl_cons, mem_foldT ts]
    show z ∈ a.nms ++ t.nms ∨ _ ↔ _
    rw [List.mem_append]
    simp only [List.mem_cons]
    constructor
    · rintro ((h | h) | ⟨x, hx, h⟩)
      · exact .inl h
      · exact .inr ⟨t, .inl rfl, h⟩
      · exact .inr ⟨x, .inr hx, h⟩
    · rintro (h | ⟨x, rfl | hx, h⟩)
      · exact .inl (.inl h)
      · exact .inl (.inr h)
      · exact .inr ⟨x, hx, h⟩
theorem mem_sumT {z : Str} : ∀ (ts : List Tm), z ∈ (sumT ts).nms ↔ ∃ t ∈ ts, z ∈ t.nms
  | [] => by
    show z ∈ [] ↔ _
    simp
  | t :: ts => by
    show z ∈ (ts.foldl _ t).nms ↔ _
    rw [mem_foldT]
    simp
theorem mem_lsT {z : Str} {ks : List Nat} : z ∈ (sumT (lsT ks)).nms ↔ ∃ k ∈ ks, z = nmS "l" k := by
  rw [mem_sumT]
  unfold lsT
  constructor
  · rintro ⟨t, ht, h⟩
    obtain ⟨k, hk, rfl⟩ := List.mem_map.mp ht
    exact ⟨k, hk, List.mem_singleton.mp h⟩
  · rintro ⟨k, hk, rfl⟩
    exact ⟨_, List.mem_map.mpr ⟨k, hk, rfl⟩, List.mem_singleton.mpr rfl⟩
theorem mem_xs {z : Str} {m : Nat} : z ∈ (sumT ((List.range m).map fun j => Tm.name (nmS "x" j))).nms ↔ ∃ j < m, z = nmS "x" j := by
  rw [mem_sumT]
  constructor
  · rintro ⟨t, ht, h⟩
    obtain ⟨k, hk, rfl⟩ := List.mem_map.mp ht
    exact ⟨k, List.mem_range.mp hk, List.mem_singleton.mp h⟩
  · rintro ⟨k, hk, rfl⟩
    exact ⟨_, List.mem_map.mpr ⟨k, List.mem_range.mpr hk, rfl⟩, List.mem_singleton.mpr rfl⟩
theorem mem_namesL {z : Str} {m n : Nat} {es : List Nat} : z ∈ namesL m n es ↔ (∃ j < m, z = nmS "x" j) ∨ (∃ j < m, z = nmS "y" j) ∨ z ∈ nm8 ∨ (∃ j < m, z = nmS "r" j) ∨ (∃ k < n, z = nmS "l" k) ∨ (∃ e ∈ es, z = nmS "e" e) := by
  have h : ∀ (c : Str) (l : List Nat), z ∈ l.map (nmS c) ↔ ∃ j ∈ l, z = nmS c j := fun c l => by
    rw [List.mem_map]
    exact ⟨fun ⟨a, b, c⟩ => ⟨a, b, c.symm⟩, fun ⟨a, b, c⟩ => ⟨a, b, c.symm⟩⟩
  unfold namesL
  simp only [List.mem_append, h, List.mem_range]
  constructor
  · rintro (((((h | h) | h) | h) | h) | h)
    · exact .inl h
    · exact .inr (.inl h)
    · exact .inr (.inr (.inl h))
    · exact .inr (.inr (.inr (.inl h)))
    · exact .inr (.inr (.inr (.inr (.inl h))))
    · exact .inr (.inr (.inr (.inr (.inr h))))
  · rintro (h | h | h | h | h | h)
    · exact .inl (.inl (.inl (.inl (.inl h))))
    · exact .inl (.inl (.inl (.inl (.inr h))))
    · exact .inl (.inl (.inl (.inr h)))
    · exact .inl (.inl (.inr h))
    · exact .inl (.inr h)
    · exact .inr h
/-- no row but a stop or a go is the last one -/
theorem Prg.next {m : Nat} {rs : List Rw} (h : Prg m rs) {k : Nat} {r : Rw} (hk : rs[k]? = some r) (n1 : r ≠ .st) (n2 : ∀ g, r ≠ .go g) : k + 1 < rs.length := by
  obtain ⟨us, v, q, z⟩ := h.fin
  have hl := (List.getElem?_eq_some_iff.mp hk).1
  refine Nat.lt_of_not_le fun hle => ?_
  have hk2 : k = us.length := by
    rw [q, List.length_append] at hl hle
    have hl : k < us.length + 1 := hl
    have hle : us.length + 1 ≤ k + 1 := hle
    omega
  rw [q, hk2, List.getElem?_append_right (Nat.le_refl _), Nat.sub_self] at hk
  have e : v = r := Option.some.inj hk
  subst e
  cases v <;> first | exact n1 rfl | exact n2 _ rfl | exact z
theorem asked_of {m : Nat} {rs : List Rw} (h : Prg m rs) {k j g : Nat} (hk : rs[k]? = some (.br j g)) (n : g ≠ k + 1) : j ∈ asked m rs := by
  have hl := (List.getElem?_eq_some_iff.mp hk).1
  have ho := h.ok _ (List.mem_of_getElem? hk)
  refine List.mem_filter.mpr ⟨List.mem_range.mpr ho.1, List.any_eq_true.mpr ⟨k, List.mem_range.mpr hl, ?_⟩⟩
  rw [isAsk_br hk, decide_eq_true rfl, decide_eq_true n]
  rfl
theorem nm8_mem {z : Str} : z ∈ nm8 ↔ z = "s" ∨ z = "c" ∨ z = "h" ∨ z = "d" ∨ z = "q" ∨ z = "g" ∨ z = "i" ∨ z = "m" := by
  unfold nm8
  simp only [List.map_cons, List.map_nil, List.mem_cons, List.not_mem_nil, or_false]
theorem nms_in {m : Nat} {rs : List Rw} (h : Prg m rs) {z : Str} (hz : z ∈ nmSys (sysOf m rs)) : z ∈ namesL m rs.length (asked m rs) := by
  obtain ⟨s, hs, hz⟩ := mem_nmSys.mp hz
  rw [mem_namesL]
  have X : ∀ j, j < m → z = nmS "x" j → _ := fun j hj e => (Or.inl ⟨j, hj, e⟩ : (∃ j < m, z = nmS "x" j) ∨ (∃ j < m, z = nmS "y" j) ∨ z ∈ nm8 ∨ (∃ j < m, z = nmS "r" j) ∨ (∃ k < rs.length, z = nmS "l" k) ∨ (∃ e ∈ asked m rs, z = nmS "e" e))
  have Y : ∀ j, j < m → z = nmS "y" j → (∃ j < m, z = nmS "x" j) ∨ (∃ j < m, z = nmS "y" j) ∨ z ∈ nm8 ∨ (∃ j < m, z = nmS "r" j) ∨ (∃ k < rs.length, z = nmS "l" k) ∨ (∃ e ∈ asked m rs, z = nmS "e" e) := fun j hj e => .inr (.inl ⟨j, hj, e⟩)
  have N : (z = "s" ∨ z = "c" ∨ z = "h" ∨ z = "d" ∨ z = "q" ∨ z = "g" ∨ z = "i" ∨ z = "m") → (∃ j < m, z = nmS "x" j) ∨ (∃ j < m, z = nmS "y" j) ∨ z ∈ nm8 ∨ (∃ j < m, z = nmS "r" j) ∨ (∃ k < rs.length, z = nmS "l" k) ∨ (∃ e ∈ asked m rs, z = nmS "e" e) := fun e => .inr (.inr (.inl (nm8_mem.mpr e)))
  have R : ∀ j, j < m → z = nmS "r" j → (∃ j < m, z = nmS "x" j) ∨ (∃ j < m, z = nmS "y" j) ∨ z ∈ nm8 ∨ (∃ j < m, z = nmS "r" j) ∨ (∃ k < rs.length, z = nmS "l" k) ∨ (∃ e ∈ asked m rs, z = nmS "e" e) := fun j hj e => .inr (.inr (.inr (.inl ⟨j, hj, e⟩)))
  have L : ∀ k, k < rs.length → z = nmS "l" k → (∃ j < m, z = nmS "x" j) ∨ (∃ j < m, z = nmS "y" j) ∨ z ∈ nm8 ∨ (∃ j < m, z = nmS "r" j) ∨ (∃ k < rs.length, z = nmS "l" k) ∨ (∃ e ∈ asked m rs, z = nmS "e" e) := fun k hk e => .inr (.inr (.inr (.inr (.inl ⟨k, hk, e⟩))))
  have W : ∀ j, j ∈ asked m rs → z = nmS "e" j → (∃ j < m, z = nmS "x" j) ∨ (∃ j < m, z = nmS "y" j) ∨ z ∈ nm8 ∨ (∃ j < m, z = nmS "r" j) ∨ (∃ k < rs.length, z = nmS "l" k) ∨ (∃ e ∈ asked m rs, z = nmS "e" e) := fun j hj e => .inr (.inr (.inr (.inr (.inr ⟨j, hj, e⟩))))
  have X : ∀ j, j < m → z = nmS "x" j → (∃ j < m, z = nmS "x" j) ∨ (∃ j < m, z = nmS "y" j) ∨ z ∈ nm8 ∨ (∃ j < m, z = nmS "r" j) ∨ (∃ k < rs.length, z = nmS "l" k) ∨ (∃ e ∈ asked m rs, z = nmS "e" e) := X
  obtain ⟨G, hG⟩ : ∃ G : Prop, G = ((∃ j < m, z = nmS "x" j) ∨ (∃ j < m, z = nmS "y" j) ∨ z ∈ nm8 ∨ (∃ j < m, z = nmS "r" j) ∨ (∃ k < rs.length, z = nmS "l" k) ∨ (∃ e ∈ asked m rs, z = nmS "e" e)) := ⟨_, rfl⟩
  rw [← hG] at X Y N R L W ⊢
  have one : ∀ {c : Str}, z ∈ (Tm.name c).nms → z = c := fun q => List.mem_singleton.mp q
  have two : ∀ {w : Str} {a b : Tm}, z ∈ (Tm.op w a b).nms → z ∈ a.nms ∨ z ∈ b.nms := fun q => List.mem_append.mp q
  have non : ∀ {n : Nat}, z ∈ (Tm.num n).nms → False := fun q => by cases q
  have T : z ∈ topT.nms → G := fun q => by
    rcases two q with q | q
    · exact (non q).elim
    rcases two q with q | q
    · exact N (by rw [one q]; simp)
    rcases two q with q | q
    · exact N (by rw [one q]; simp)
    · exact (non q).elim
  have LS : ∀ {ks : List Nat}, (∀ k ∈ ks, k < rs.length) → z ∈ (sumT (lsT ks)).nms → G := fun hks q => by
    obtain ⟨k, hk, e⟩ := mem_lsT.mp q
    exact L k (hks k hk) e
  unfold sysOf at hs
  rcases List.mem_append.mp hs with hs | hs
  · rcases List.mem_append.mp hs with hs | hs
    · rcases List.mem_append.mp hs with hs | hs
      · unfold baseS at hs
        simp only [List.mem_cons, List.not_mem_nil, or_false] at hs
        rcases hs with rfl | rfl | rfl | rfl | rfl | rfl
        · rcases hz with q | q
          · exact N (by rw [one q]; simp)
          rcases two q with q | q
          · rcases two q with q | q
            · obtain ⟨j, hj, e⟩ := mem_xs.mp q
              exact X j hj e
            · exact (non q).elim
          · exact N (by rw [one q]; simp)
        · rcases hz with q | q
          · exact N (by rw [one q]; simp)
          rcases two q with q | q
          · exact (non q).elim
          · exact N (by rw [one q]; simp)
        · rcases hz with q | q
          · exact N (by rw [one q]; simp)
          rcases two q with q | q
          · exact (non q).elim
          · exact N (by rw [one q]; simp)
        · rcases hz with q | q
          · exact N (by rw [one q]; simp)
          rcases two q with q | q
          · exact (non q).elim
          · exact N (by rw [one q]; simp)
        · rcases hz with q | q
          · rcases two q with q | q
            · rcases two q with q | q
              · exact N (by rw [one q]; simp)
              · exact N (by rw [one q]; simp)
            · exact (non q).elim
          · rcases two q with q | q
            · exact T q
            · exact N (by rw [one q]; simp)
        · rcases hz with q | q
          · rcases two q with q | q
            · exact N (by rw [one q]; simp)
            · exact N (by rw [one q]; simp)
          · rcases two q with q | q
            · exact N (by rw [one q]; simp)
            · exact N (by rw [one q]; simp)
      · unfold timeS at hs
        rcases List.mem_append.mp hs with hs | hs
        · rcases List.mem_append.mp hs with hs | hs
          · rcases List.mem_append.mp hs with hs | hs
            · rcases List.mem_append.mp hs with hs | hs
              · rcases List.mem_append.mp hs with hs | hs
                · obtain ⟨j, hj, rfl⟩ := List.mem_map.mp hs
                  rcases hz with q | q
                  · exact R j (List.mem_range.mp hj) (one q)
                  · exact N (by rw [one q]; simp)
                · obtain ⟨j, hj, rfl⟩ := List.mem_map.mp hs
                  rcases hz with q | q
                  · exact L j (List.mem_range.mp hj) (one q)
                  · exact N (by rw [one q]; simp)
              · rw [List.mem_singleton.mp hs] at hz
                rcases hz with q | q
                · exact LS (fun k hk => List.mem_range.mp hk) q
                · exact N (by rw [one q]; simp)
            · rw [List.mem_singleton.mp hs] at hz
              rcases hz with q | q
              · exact (non q).elim
              · exact L 0 h.pos (one q)
          · rw [List.mem_singleton.mp hs] at hz
            rcases hz with q | q
            · exact LS (fun k hk => List.mem_range.mp (List.mem_filter.mp hk).1) q
            · rcases two q with q | q
              · exact (non q).elim
              rcases two q with q | q
              · exact N (by rw [one q]; simp)
              · exact N (by rw [one q]; simp)
        · obtain ⟨j, hj, rfl⟩ := List.mem_map.mp hs
          rcases hz with q | q
          · rcases two q with q | q
            · exact W j hj (one q)
            rcases two q with q | q
            · exact (non q).elim
            · exact R j (asked_lt j hj) (one q)
          · rcases two q with q | q
            · exact N (by rw [one q]; simp)
            · exact N (by rw [one q]; simp)
    · unfold rowsS at hs
      obtain ⟨l, hl, hsl⟩ := List.mem_flatten.mp hs
      obtain ⟨k, hk, rfl⟩ := List.mem_map.mp hl
      have hk := List.mem_range.mp hk
      obtain ⟨r, hr⟩ : ∃ r, rs[k]? = some r := ⟨_, List.getElem?_eq_getElem hk⟩
      have ho := h.ok r (List.mem_of_getElem? hr)
      have QL : z ∈ (Tm.op "times" (.name "q") (.name (nmS "l" k))).nms → G := fun q => by
        rcases two q with q | q
        · exact N (by rw [one q]; simp)
        · exact L k hk (one q)
      unfold rowS at hsl
      rw [hr] at hsl
      cases r with
      | st => cases hsl
      | go g =>
        rw [List.mem_singleton.mp hsl] at hz
        rcases hz with q | q
        · exact QL q
        · exact L g ho (one q)
      | up j =>
        have hn := h.next hr (by intro e; cases e) (by intro g e; cases e)
        rw [List.mem_singleton.mp hsl] at hz
        rcases hz with q | q
        · exact QL q
        · exact L (k + 1) hn (one q)
      | dn j =>
        have hn := h.next hr (by intro e; cases e) (by intro g e; cases e)
        rw [List.mem_singleton.mp hsl] at hz
        rcases hz with q | q
        · exact QL q
        · exact L (k + 1) hn (one q)
      | br j g =>
        have hn := h.next hr (by intro e; cases e) (by intro g e; cases e)
        by_cases e : g = k + 1
        · have hsl : s ∈ [undr (Tm.op "times" (.name "q") (.name (nmS "l" k))) (.name (nmS "l" (k + 1)))] := by
            have : s ∈ (if g = k + 1 then _ else _ : List SyW) := hsl
            rw [if_pos e] at this
            exact this
          rw [List.mem_singleton.mp hsl] at hz
          rcases hz with q | q
          · exact QL q
          · exact L (k + 1) hn (one q)
        · have hsl : s ∈ [undr (Tm.op "times" (.name "q") (.name (nmS "l" k))) (.op "plus" (.name (nmS "l" g)) (.name (nmS "l" (k + 1)))), undr (Tm.op "times" (.name "q") (.name (nmS "l" k))) (.op "plus" (.name (nmS "l" (k + 1))) (.name (nmS "e" j)))] := by
            have : s ∈ (if g = k + 1 then _ else _ : List SyW) := hsl
            rw [if_neg e] at this
            exact this
          rcases List.mem_cons.mp hsl with rfl | hsl
          · rcases hz with q | q
            · exact QL q
            rcases two q with q | q
            · exact L g ho.2 (one q)
            · exact L (k + 1) hn (one q)
          · rw [List.mem_singleton.mp hsl] at hz
            rcases hz with q | q
            · exact QL q
            rcases two q with q | q
            · exact L (k + 1) hn (one q)
            · exact W j (asked_of h hr e) (one q)
  · obtain ⟨j, hj, rfl⟩ := List.mem_map.mp hs
    have hj := List.mem_range.mp hj
    have PL : ∀ q0, ∀ k ∈ plc rs q0 rs.length, k < rs.length := fun q0 k hk => List.mem_range.mp (List.mem_filter.mp hk).1
    rcases hz with q | q
    · rcases two q with q | q
      · rcases two q with q | q
        · exact N (by rw [one q]; simp)
        rcases two q with q | q
        · exact R j hj (one q)
        · exact LS (PL _) q
      · exact X j hj (one q)
    · rcases two q with q | q
      · rcases two q with q | q
        · exact R j hj (one q)
        rcases two q with q | q
        · exact N (by rw [one q]; simp)
        · exact LS (PL _) q
      · rcases two q with q | q
        · exact T q
        · exact Y j hj (one q)
/-! the sayings of a program are terms of few parts -/
theorem opPl {a b : Tm} (h : a.opw) (k : b.opw) : (Tm.op "plus" a b).opw := ⟨by decide +kernel, by decide +kernel, h, k⟩
theorem opw_fold : ∀ (ts : List Tm) (a : Tm), a.opw → (∀ t ∈ ts, t.opw ∧ t.wt = 1) → (ts.foldl (fun a b => Tm.op "plus" a b) a).opw ∧ (ts.foldl (fun a b => Tm.op "plus" a b) a).wt = a.wt + 3 * ts.length
  | [], a, h, _ => ⟨h, by simp⟩
  | t :: ts, a, h, k => by
    obtain ⟨k1, k2⟩ := k t List.mem_cons_self
    obtain ⟨h1, h2⟩ := opw_fold ts (.op "plus" a t) (opPl h k1) fun x hx => k x (List.mem_cons_of_mem _ hx)
    refine ⟨h1, ?_⟩
    rw [List.foldl_cons, h2]
    show a.wt + t.wt + 2 + _ = _
    rw [List.length_cons]
    omega
theorem opw_sum : ∀ (ts : List Tm), (∀ t ∈ ts, t.opw ∧ t.wt = 1) → (sumT ts).opw ∧ (sumT ts).wt ≤ 3 * ts.length + 1
  | [], _ => ⟨trivial, by show 1 ≤ _; omega⟩
  | t :: ts, h => by
    obtain ⟨k1, k2⟩ := h t List.mem_cons_self
    obtain ⟨h1, h2⟩ := opw_fold ts t k1 fun x hx => h x (List.mem_cons_of_mem _ hx)
    refine ⟨h1, ?_⟩
    show (ts.foldl _ t).wt ≤ _
    rw [h2, List.length_cons]
    omega
theorem opw_ls (ks : List Nat) : (sumT (lsT ks)).opw ∧ (sumT (lsT ks)).wt ≤ 3 * ks.length + 1 := by
  have h := opw_sum (lsT ks) fun t ht => by
    obtain ⟨k, _, rfl⟩ := List.mem_map.mp ht
    exact ⟨trivial, rfl⟩
  rw [lsT_len] at h
  exact h
structure S32 (K : PySem.W.Frag) (H : Hp) (m n : Nat) (p X Y R L : Addr) (us xs ys ws ls : List V) (rs : List Rw) (c1 c2 vc vs vq vi vpk : V) : Prop where
  hp : H p = some (.lst us)
  hR : RwsAt H us rs
  gX : H X = some (.lst xs)
  hX : TmsAt K H xs ((List.range m).map fun j => .name (nmS "x" j))
  gY : H Y = some (.lst ys)
  hY : TmsAt K H ys ((List.range m).map fun j => .name (nmS "y" j))
  gR : H R = some (.lst ws)
  hW : TmsAt K H ws ((List.range m).map fun j => .name (nmS "r" j))
  gL : H L = some (.lst ls)
  hL : TmsAt K H ls (lsT (List.range n))
  t1 : TmAt K H (.num 1) c1
  t2 : TmAt K H (.num 2) c2
  tc : TmAt K H (.name "c") vc
  ts : TmAt K H (.name "s") vs
  tq : TmAt K H (.name "q") vq
  ti : TmAt K H (.name "i") vi
  tk : TmAt K H topT vpk
theorem S32.sm {K : PySem.W.Frag} {H H' : Hp} {m n : Nat} {p X Y R L : Addr} {us xs ys ws ls : List V} {rs : List Rw} {c1 c2 vc vs vq vi vpk : V} (h : S32 K H m n p X Y R L us xs ys ws ls rs c1 c2 vc vs vq vi vpk) (e : Sm H H') : S32 K H' m n p X Y R L us xs ys ws ls rs c1 c2 vc vs vq vi vpk :=
  ⟨e _ _ h.hp, h.hR.tk (Tk.sm e), e _ _ h.gX, TmsAt.sm h.hX e, e _ _ h.gY, TmsAt.sm h.hY e, e _ _ h.gR, TmsAt.sm h.hW e, e _ _ h.gL, TmsAt.sm h.hL e, h.t1.sm e, h.t2.sm e, h.tc.sm e, h.ts.sm e, h.tq.sm e, h.ti.sm e, h.tk.sm e⟩
theorem S32.kp {K : PySem.W.Frag} {H H' : Hp} {m n : Nat} {p X Y R L F : Addr} {us xs ys ws ls zs : List V} {rs : List Rw} {c1 c2 vc vs vq vi vpk : V} (h : S32 K H m n p X Y R L us xs ys ws ls rs c1 c2 vc vs vq vi vpk) (g : H F = some (.lst zs)) (e : Kp F H H') (n1 : p ≠ F) (n2 : X ≠ F) (n3 : Y ≠ F) (n4 : R ≠ F) (n5 : L ≠ F) : S32 K H' m n p X Y R L us xs ys ws ls rs c1 c2 vc vs vq vi vpk :=
  ⟨e _ _ n1 h.hp, h.hR.tk (Tk.kp g e), e _ _ n2 h.gX, h.hX.kpL g e, e _ _ n3 h.gY, h.hY.kpL g e, e _ _ n4 h.gR, h.hW.kpL g e, e _ _ n5 h.gL, h.hL.kpL g e, h.t1.kpL g e, h.t2.kpL g e, h.tc.kpL g e, h.ts.kpL g e, h.tq.kpL g e, h.ti.kpL g e, h.tk.kpL g e⟩
theorem S32.new {K : PySem.W.Frag} {H : Hp} {m n : Nat} {p X Y R L F : Addr} {us xs ys ws ls : List V} {rs : List Rw} {c1 c2 vc vs vq vi vpk : V} (h : S32 K H m n p X Y R L us xs ys ws ls rs c1 c2 vc vs vq vi vpk) (g : H F = none) : p ≠ F ∧ X ≠ F ∧ Y ≠ F ∧ R ≠ F ∧ L ≠ F :=
  ⟨ne_of_none h.hp g, ne_of_none h.gX g, ne_of_none h.gY g, ne_of_none h.gR g, ne_of_none h.gL g⟩
theorem lsg {n k : Nat} (hk : k < n) : (lsT (List.range n))[k]? = some (.name (nmS "l" k)) := by
  unfold lsT
  rw [List.getElem?_map, List.getElem?_range hk]
  rfl
theorem nmg {n k : Nat} {c : Str} (hk : k < n) : ((List.range n).map fun j => Tm.name (nmS c j))[k]? = some (.name (nmS c k)) := by
  rw [List.getElem?_map, List.getElem?_range hk]
  rfl
theorem lsT_snoc (l : List Nat) (k : Nat) : lsT (l ++ [k]) = lsT l ++ [.name (nmS "l" k)] := by
  unfold lsT
  rw [List.map_append]
  rfl
def askS (j : Nat) : SyW := same (.op "plus" (.name (nmS "e" j)) (.op "times" (.num 2) (.name (nmS "r" j)))) (.op "times" (.name "q") (.name "i"))
def p1S (m : Nat) (rs : List Rw) : List SyW := (baseS m rs.length ++ (List.range m).map (fun j => undr (.name (nmS "r" j)) (.name "m")) ++ (List.range rs.length).map (fun k => undr (.name (nmS "l" k)) (.name "i"))) ++ [same (sumT (lsT (List.range rs.length))) (.name "i"), undr (.num 1) (.name (nmS "l" 0))] ++ [same (sumT (lsT (stpK rs rs.length))) (pwAt (.name "s"))]
theorem p1_sys (m : Nat) (rs : List Rw) : p1S m rs ++ (asked m rs).map askS ++ rowsS rs rs.length ++ (List.range m).map (boxS rs) = sysOf m rs := by
  unfold p1S sysOf timeS
  simp only [List.append_assoc, List.cons_append, List.nil_append]
  rfl
/-- the comprehension over rows: done[k] of those alike -/
theorem lcPlc {K : PySem.W.Frag} {H : Hp} {Q : VK} {σ : L2.St} {vs : List Nat} {g : TG} {tt : TT} {te : TE} {p L : Addr} {us ls : List V} {rs : List Rw} {n : Nat} (q : Rw) (hp : H p = some (.lst us)) (hR : RwsAt H us rs) (gL : H L = some (.lst ls)) (hL : TmsAt K H ls (lsT (List.range n))) (hn : us.length ≤ n) (h14 : us.length ≤ 14)
    (hs : ∀ (D : Addr) (i : Nat) (t T : Addr) (r : Rw) (H' : Hp) (R1 R0 : Hp → Prop), H' T = some (.tup [.int (i : Nat), .ref t]) → H' t = some (.tup r.vs) → H' L = some (.lst ls) → TmsAt K H' ls (lsT (List.range n)) → i < n →
      (r = q → ∀ v H2, Sm H' H2 → TmAt K H2 (.name (nmS "l" i)) v → LcEnd D v R1 H2) → (r ≠ q → ∀ H2, Sm H' H2 → R0 H2) → g (.ref T) (wipe σ vs) H' fun σ2 H2 => LcGo vs σ σ2 (tt σ2 H2 fun b H3 => if b = true then te σ2 H3 fun y H4 => LcEnd D y R1 H4 else R0 H3))
    (k : ∀ D zs H', H D = none → Sm H H' → H' D = some (.lst zs) → TmsAt K H' zs (lsT (plc rs q rs.length)) → zs.length ≤ 14 → Q (.ref D) H') : LcL (Ite K p) g tt te vs σ H Q := by
  refine lcEn (xs := us) (fun D i H' => ∃ zs, H' D = some (.lst zs) ∧ TmsAt K H' zs (lsT (plc rs q i)) ∧ zs.length ≤ i ∧ Sm H H') (fun D H' nD sm hD => ⟨[], hD, .nil, Nat.le_refl _, sm⟩) (fun D i H' nD hi h => by obtain ⟨zs, _, _, _, sm⟩ := h; exact sq_of (sm _ _ hp)) ?_ ?_
  · rintro D i x T H1 H' nD hil hx ⟨zs, hD, hz, hzl, sm⟩ nT sT gT
    obtain ⟨r, hri, t, rfl, ht⟩ := paired_get hR hx
    have sm' := sm.trans sT
    have hD' := sT _ _ hD
    have hz' := TmsAt.sm hz sT
    refine hs D i t T r H' _ _ gT (sm' _ _ ht) (sm' _ _ gL) (TmsAt.sm hL sm') (by omega) (fun e v H2 s2 tv => ?_) (fun e H2 s2 => ?_)
    · refine w_lcEnd (s2 _ _ hD') (sz_lt (by omega)) (fun H3 k3 g3 => ?_)
      refine ⟨_, g3, ?_, by rw [List.length_append]; show zs.length + 1 ≤ _; omega, sm_mut (sm'.trans s2) nD k3⟩
      rw [plc_succ, if_pos (by rw [hri, e]), lsT_snoc]
      exact ((TmsAt.sm hz' s2).one tv).kpL (s2 _ _ hD') k3
    · refine ⟨zs, s2 _ _ hD', ?_, by omega, sm'.trans s2⟩
      rw [plc_succ, if_neg (by rw [hri]; exact fun z => e (Option.some.inj z)), List.append_nil]
      exact TmsAt.sm hz' s2
  · rintro D H' nD ⟨zs, hD, hz, hzl, sm⟩
    rw [paired_len hR] at hz
    exact k D zs H' nD sm hD hz (by omega)
theorem pw_odd {F B N : Nat} (h : N % 2 = 1) : F * B * (B * B) ^ (N / 2) = F * B ^ N := by
  have e : (N / 2 + N / 2).succ = N := by omega
  rw [Nat.mul_pow, ← Nat.pow_add, Nat.mul_assoc, Nat.mul_comm B, ← Nat.pow_succ, e]
theorem pw_even {F B N : Nat} (h : N % 2 = 0) : F * (B * B) ^ (N / 2) = F * B ^ N := by
  have e : N / 2 + N / 2 = N := by omega
  rw [Nat.mul_pow, ← Nat.pow_add, e]
/-! a walk over a list or a tuple -/
theorem pi_or {X : Cx} {tg l : Expr} {t1 t2 : TI} (h1 : PI X tg l t1) (h2 : PI X tg l t2) : PI X tg l (fun σ H R => t1 σ H R ∨ t2 σ H R) := ⟨fun pins s σ H R I h => h.elim (fun h => h1.run pins s σ H R I h) (fun h => h2.run pins s σ H R I h)⟩
/-- a saying that can be looked at -/
def HoldsOk (K : PySem.W.Frag) (H : Hp) (kvs : List (Key × V)) (g : Str → Nat) (v : V) (o : Bool) : Prop := ∃ w l r a b, SayAt K H v w l r ∧ TmAt K H a l ∧ TmAt K H b r ∧ TmOk kvs g a ∧ TmOk kvs g b ∧ a.wt ≤ 10000 ∧ b.wt ≤ 10000 ∧ o = (if w = "under" then decide (ev g a &&& ev g b = ev g a) else decide (ev g a = ev g b))
theorem HoldsOk.sm {K : PySem.W.Frag} {H H' : Hp} {kvs : List (Key × V)} {g : Str → Nat} {v : V} {o : Bool} (h : HoldsOk K H kvs g v o) (e : Sm H H') : HoldsOk K H' kvs g v o := by
  obtain ⟨w, l, r, a, b, h1, h2, h3, h4⟩ := h
  exact ⟨w, l, r, a, b, h1.sm e, h2.sm e, h3.sm e, h4⟩
/-- the first that is false -/
def firstF : List Bool → Option Nat
  | [] => none
  | b :: bs => if b = true then (firstF bs).map (· + 1) else some 0
theorem firstF_take : ∀ {bs : List Bool} {i : Nat} {b : Bool}, bs[i]? = some b → (∀ c ∈ bs.take i, c = true) → b = false → firstF bs = some i
  | [], _, _, h, _, _ => by cases h
  | v :: bs, 0, b, h, _, n => by
    have h : v = b := Option.some.inj h
    unfold firstF
    rw [h, n]
    rfl
  | v :: bs, i + 1, b, h, k, n => by
    have h : bs[i]? = some b := h
    have hv : v = true := k v List.mem_cons_self
    unfold firstF
    rw [if_pos hv, firstF_take h (fun c hc => k c (List.mem_cons_of_mem _ hc)) n]
    rfl
theorem firstF_none : ∀ {bs : List Bool}, (∀ c ∈ bs, c = true) → firstF bs = none
  | [], _ => rfl
  | v :: bs, k => by
    unfold firstF
    rw [if_pos (k v List.mem_cons_self), firstF_none fun c hc => k c (List.mem_cons_of_mem _ hc)]
    rfl
def natV : Option Nat → V
  | none => .non
  | some i => .int (i : Nat)
theorem w_neNat {K : PySem.W.Frag} {H : Hp} {Q : VK} (o : Option Nat) (k : Q (.bl false) H) : gNe K (natV o) (natV o) H Q := by
  cases o with
  | none => exact w_neSame .non .non (by decide) k
  | some n => exact w_neI (by rw [decide_eq_true rfl]; exact k)
theorem w_eqNat {K : PySem.W.Frag} {H : Hp} {Q : VK} (o : Option Nat) (k : Q (.bl true) H) : gEq K (natV o) (natV o) H Q := by
  cases o with
  | none => exact .inr ⟨_, _, .non, .non, by decide, by decide, by rw [PySem.SeqAt.eqv_refl _ (SeqAt.canLay_of_shaped (by decide))]; exact k⟩
  | some n => exact w_eqI (by rw [decide_eq_true rfl]; exact k)
theorem w_isiNat {K : PySem.W.Frag} {H : Hp} {Q : VK} (o : Option Nat) (k : Q (.bl false) H) : rIsi K [natV o, .ty "bool"] H Q := by
  cases o with
  | none => exact ⟨_, _, _, _, _, rfl, .ty _, .base .non, kit_ty (by decide +kernel), k⟩
  | some n => exact w_isiIb k
theorem pw2_odd {F B N : Nat} (h : N % 2 = 1) : F * B * (B * B) ^ (N / 2) = F * B ^ N := by
  have e : (N / 2 + N / 2).succ = N := by omega
  rw [Nat.mul_pow, ← Nat.pow_add, Nat.mul_assoc, Nat.mul_comm B, ← Nat.pow_succ, e]
theorem pw2_even {F B N : Nat} (h : N % 2 = 0) : F * (B * B) ^ (N / 2) = F * B ^ N := by
  have e : N / 2 + N / 2 = N := by omega
  rw [Nat.mul_pow, ← Nat.pow_add, e]
/-! list(a dict): its keys; a number of a dict otherwise -/
theorem w_lstD {H : Hp} {Q : VK} {d : Addr} {kvs : List (Key × V)} (h : H d = some (.dK kvs)) (k : ∀ p H', H p = none → Sm H H' → H' p = some (.lst (kvs.map fun kv => kV kv.1)) → Q (.ref p) H') : rListD [.ref d] H Q := ⟨d, kvs, rfl, h, fun q hq => k q _ hq (sm_new hq) upd_same⟩
theorem DicOk.key {kvs : List (Key × V)} {ys : List Str} {M : Nat} (h : DicOk kvs ys M) {i : Nat} (hi : i < kvs.length) : ∃ (s : Str) (n : Nat), atI (kvs.map fun kv => kV kv.1) (i : Int) = some (.str s) ∧ valV kvs (.inr s) = some (.int (n : Nat)) ∧ n < M ∧ Low s ∧ ∃ p ∈ kvs, p.1 = Sum.inr s := by
  have hp : kvs[i] ∈ kvs := List.getElem_mem hi
  obtain ⟨s, n, e, hn, hs⟩ := h.ok _ hp
  refine ⟨s, n, ?_, ?_, hn, hs, _, hp, by rw [e]⟩
  · refine atI_nat ?_
    rw [List.getElem?_map, List.getElem?_eq_getElem hi, e]
    rfl
  · have := valV_nd h.nd hp
    rw [e] at this
    exact this
theorem DicOk.otherwise {kvs : List (Key × V)} {ys : List Str} {M M' : Nat} (h : DicOk kvs ys M) (l : M ≤ M') {s : Str} (hs : Low s) {n : Nat} (hn : n < M') : DicOk (putK kvs (.inr s) (.int (n : Nat))) ys M' := ((h.up l).put s hs hn).sub fun z hz => List.mem_append_left _ hz
theorem putK_hasL {kvs : List (Key × V)} {k : Key} {v : V} (h : ∃ p ∈ kvs, p.1 = k) : (putK kvs k v).length = kvs.length := by
  unfold putK
  rw [if_pos]
  · rw [List.length_map]
  · obtain ⟨p, hp, e⟩ := h
    first
      | exact ⟨p, hp, e⟩
      | (rw [List.any_eq_true]; exact ⟨p, hp, by simpa using e⟩)
theorem xor_smallP {x y : Int} {k : Nat} (x0 : 0 ≤ x) (y0 : 0 ≤ y) (hx : x < 2 ^ k) (hy : y < 2 ^ k) : ∃ n : Nat, Builtin.bitXor x y = (n : Int) ∧ n < 2 ^ k := by
  obtain ⟨p, rfl⟩ := Int.eq_ofNat_of_zero_le x0
  obtain ⟨q, rfl⟩ := Int.eq_ofNat_of_zero_le y0
  rw [Bits.bitXor_pp x0 y0, Int.toNat_natCast, Int.toNat_natCast]
  have e : (2 : Int) ^ k = ((2 ^ k : Nat) : Int) := by rw [Int.natCast_pow]; rfl
  rw [e] at hx hy
  exact ⟨_, rfl, Nat.xor_lt_two_pow (Int.ofNat_lt.mp hx) (Int.ofNat_lt.mp hy)⟩
theorem pow2_natP (n : Nat) : (2 : Int) ^ n = ((2 ^ n : Nat) : Int) := by rw [Int.natCast_pow]; rfl
/-! a program's sayings shown: words and numbers are plain -/
def Tm.oq : Tm → Prop
  | .num n => n < 1000000000000
  | .name _ => True
  | .op w a b => (PyData.strOk w = true ∧ w.length ≤ 20) ∧ a.oq ∧ b.oq
def SayOk2 (s : SyW) : Prop := s.2.1.oq ∧ s.2.2.oq ∧ s.2.1.wt ≤ 100 ∧ s.2.2.wt ≤ 100
theorem oqPl {a b : Tm} (h : a.oq) (k : b.oq) : (Tm.op "plus" a b).oq := ⟨⟨by decide +kernel, by decide⟩, h, k⟩
theorem oqMl {a b : Tm} (h : a.oq) (k : b.oq) : (Tm.op "times" a b).oq := ⟨⟨by decide +kernel, by decide⟩, h, k⟩
theorem oqPw {a b : Tm} (h : a.oq) (k : b.oq) : (Tm.op "power" a b).oq := ⟨⟨by decide +kernel, by decide⟩, h, k⟩
theorem oqw_fold : ∀ (ts : List Tm) (a : Tm), a.oq → (∀ t ∈ ts, t.oq ∧ t.wt = 1) → (ts.foldl (fun a b => Tm.op "plus" a b) a).oq ∧ (ts.foldl (fun a b => Tm.op "plus" a b) a).wt = a.wt + 3 * ts.length
  | [], a, h, _ => ⟨h, by simp⟩
  | t :: ts, a, h, k => by
    obtain ⟨k1, k2⟩ := k t List.mem_cons_self
    obtain ⟨h1, h2⟩ := oqw_fold ts (.op "plus" a t) (oqPl h k1) fun x hx => k x (List.mem_cons_of_mem _ hx)
    refine ⟨h1, ?_⟩
    rw [List.foldl_cons, h2]
    show a.wt + t.wt + 2 + _ = _
    rw [List.length_cons]
    omega
theorem oqw_sum : ∀ (ts : List Tm), (∀ t ∈ ts, t.oq ∧ t.wt = 1) → (sumT ts).oq ∧ (sumT ts).wt ≤ 3 * ts.length + 1
  | [], _ => ⟨show (0 : Nat) < 1000000000000 by decide, by show 1 ≤ _; omega⟩
  | t :: ts, h => by
    obtain ⟨k1, k2⟩ := h t List.mem_cons_self
    obtain ⟨h1, h2⟩ := oqw_fold ts t k1 fun x hx => h x (List.mem_cons_of_mem _ hx)
    refine ⟨h1, ?_⟩
    show (ts.foldl _ t).wt ≤ _
    rw [h2, List.length_cons]
    omega
theorem oqw_ls (ks : List Nat) : (sumT (lsT ks)).oq ∧ (sumT (lsT ks)).wt ≤ 3 * ks.length + 1 := by
  have h := oqw_sum (lsT ks) fun t ht => by
    obtain ⟨k, _, rfl⟩ := List.mem_map.mp ht
    exact ⟨trivial, rfl⟩
  rw [lsT_len] at h
  exact h
theorem oqw_xs (m : Nat) : (sumT ((List.range m).map fun j => Tm.name (nmS "x" j))).oq ∧ (sumT ((List.range m).map fun j => Tm.name (nmS "x" j))).wt ≤ 3 * m + 1 := by
  have h := oqw_sum ((List.range m).map fun j => Tm.name (nmS "x" j)) fun t ht => by
    obtain ⟨k, _, rfl⟩ := List.mem_map.mp ht
    exact ⟨trivial, rfl⟩
  rw [List.length_map, List.length_range] at h
  exact h
local macro_rules | `(tactic| tm_at "roq") => `(tactic| first | exact trivial | (show (_ : Nat) < 1000000000000; omega) | fail "no")
theorem sys_ok2 {m : Nat} {rs : List Rw} (h : Prg m rs) : ∀ s ∈ sysOf m rs, SayOk2 s := by
  intro s hs
  have h14 := h.len
  have h5 := h.b5
  have x1 := oqw_xs m
  have top : topT.oq := oqPw (by tm_at "roq") (oqMl (by tm_at "roq") (oqPl (by tm_at "roq") (by tm_at "roq")))
  have tw : topT.wt = 10 := rfl
  have base : ∀ {a b : Tm}, a.oq → b.oq → a.wt ≤ 100 → b.wt ≤ 100 → ∀ {w : Str}, SayOk2 (w, a, b) := fun h1 h2 h3 h4 => ⟨h1, h2, h3, h4⟩
  unfold sysOf at hs
  rcases List.mem_append.mp hs with hs | hs
  · rcases List.mem_append.mp hs with hs | hs
    · rcases List.mem_append.mp hs with hs | hs
      · unfold baseS at hs
        simp only [List.mem_cons, List.not_mem_nil, or_false] at hs
        rcases hs with rfl | rfl | rfl | rfl | rfl | rfl
        · refine base ?_ ?_ ?_ ?_
          · exact (by tm_at "roq")
          · exact (oqPl (oqPl x1.1 (by tm_at "roq")) (by tm_at "roq"))
          · show _ ≤ 100; (first | decide | (simp only [Tm.wt]; omega))
          · exact (by simp only [Tm.wt]; omega)
        · refine base ?_ ?_ ?_ ?_
          · exact (by tm_at "roq")
          · exact (oqMl (by tm_at "roq") (by tm_at "roq"))
          · show _ ≤ 100; (first | decide | (simp only [Tm.wt]; omega))
          · show _ ≤ 100; (first | decide | (simp only [Tm.wt]; omega))
        · refine base ?_ ?_ ?_ ?_
          · exact (by tm_at "roq")
          · exact (oqPw (by tm_at "roq") (by tm_at "roq"))
          · show _ ≤ 100; (first | decide | (simp only [Tm.wt]; omega))
          · show _ ≤ 100; (first | decide | (simp only [Tm.wt]; omega))
        · refine base ?_ ?_ ?_ ?_
          · exact (by tm_at "roq")
          · exact (oqPl (by tm_at "roq") (by tm_at "roq"))
          · show _ ≤ 100; (first | decide | (simp only [Tm.wt]; omega))
          · exact (by simp only [Tm.wt]; omega)
        · refine base ?_ ?_ ?_ ?_
          · exact (oqPl (oqMl (by tm_at "roq") (by tm_at "roq")) (by tm_at "roq"))
          · exact (oqPl top (by tm_at "roq"))
          · show _ ≤ 100; (first | decide | (simp only [Tm.wt]; omega))
          · show _ ≤ 100; (first | decide | (simp only [Tm.wt]; omega))
        · refine base ?_ ?_ ?_ ?_
          · exact (oqPl (by tm_at "roq") (by tm_at "roq"))
          · exact (oqMl (by tm_at "roq") (by tm_at "roq"))
          · show _ ≤ 100; (first | decide | (simp only [Tm.wt]; omega))
          · show _ ≤ 100; (first | decide | (simp only [Tm.wt]; omega))
      · unfold timeS at hs
        rcases List.mem_append.mp hs with hs | hs
        · rcases List.mem_append.mp hs with hs | hs
          · rcases List.mem_append.mp hs with hs | hs
            · rcases List.mem_append.mp hs with hs | hs
              · rcases List.mem_append.mp hs with hs | hs
                · obtain ⟨j, hj, rfl⟩ := List.mem_map.mp hs
                  refine base ?_ ?_ ?_ ?_
                  · exact (by tm_at "roq")
                  · exact (by tm_at "roq")
                  · show _ ≤ 100; (first | decide | (simp only [Tm.wt]; omega))
                  · show _ ≤ 100; (first | decide | (simp only [Tm.wt]; omega))
                · obtain ⟨j, hj, rfl⟩ := List.mem_map.mp hs
                  refine base ?_ ?_ ?_ ?_
                  · exact (by tm_at "roq")
                  · exact (by tm_at "roq")
                  · show _ ≤ 100; (first | decide | (simp only [Tm.wt]; omega))
                  · show _ ≤ 100; (first | decide | (simp only [Tm.wt]; omega))
              · rw [List.mem_singleton.mp hs]
                have := oqw_ls (List.range rs.length)
                rw [List.length_range] at this
                refine base ?_ ?_ ?_ ?_
                · exact this.1
                · exact (by tm_at "roq")
                · exact (by omega)
                · show _ ≤ 100; (first | decide | (simp only [Tm.wt]; omega))
            · rw [List.mem_singleton.mp hs]
              refine base ?_ ?_ ?_ ?_
              · exact (by tm_at "roq")
              · exact (by tm_at "roq")
              · show _ ≤ 100; (first | decide | (simp only [Tm.wt]; omega))
              · show _ ≤ 100; (first | decide | (simp only [Tm.wt]; omega))
          · rw [List.mem_singleton.mp hs]
            have := oqw_ls (stpK rs rs.length)
            have h2 := stpK_len rs rs.length
            refine base ?_ ?_ ?_ ?_
            · exact this.1
            · exact (oqPw (by tm_at "roq") (oqMl (by tm_at "roq") (by tm_at "roq")))
            · exact (by omega)
            · show _ ≤ 100; (first | decide | (simp only [Tm.wt]; omega))
        · obtain ⟨j, hj, rfl⟩ := List.mem_map.mp hs
          refine base ?_ ?_ ?_ ?_
          · exact (oqPl (by tm_at "roq") (oqMl (by tm_at "roq") (by tm_at "roq")))
          · exact (oqMl (by tm_at "roq") (by tm_at "roq"))
          · exact (by simp only [Tm.wt]; omega)
          · show _ ≤ 100; (first | decide | (simp only [Tm.wt]; omega))
    · unfold rowsS at hs
      obtain ⟨l, hl, hsl⟩ := List.mem_flatten.mp hs
      obtain ⟨k, hk, rfl⟩ := List.mem_map.mp hl
      unfold rowS at hsl
      split at hsl
      · cases hsl
      · rw [List.mem_singleton.mp hsl]
        refine base ?_ ?_ ?_ ?_
        · exact (oqMl (by tm_at "roq") (by tm_at "roq"))
        · exact (by tm_at "roq")
        · exact (by simp only [Tm.wt]; omega)
        · exact (by simp only [Tm.wt]; omega)
      · split at hsl
        · rw [List.mem_singleton.mp hsl]
          refine base ?_ ?_ ?_ ?_
          · exact (oqMl (by tm_at "roq") (by tm_at "roq"))
          · exact (by tm_at "roq")
          · exact (by simp only [Tm.wt]; omega)
          · exact (by simp only [Tm.wt]; omega)
        · rcases List.mem_cons.mp hsl with rfl | hsl
          · refine base ?_ ?_ ?_ ?_
            · exact (oqMl (by tm_at "roq") (by tm_at "roq"))
            · exact (oqPl (by tm_at "roq") (by tm_at "roq"))
            · exact (by simp only [Tm.wt]; omega)
            · exact (by simp only [Tm.wt]; omega)
          · rw [List.mem_singleton.mp hsl]
            refine base ?_ ?_ ?_ ?_
            · exact (oqMl (by tm_at "roq") (by tm_at "roq"))
            · exact (oqPl (by tm_at "roq") (by tm_at "roq"))
            · exact (by simp only [Tm.wt]; omega)
            · exact (by simp only [Tm.wt]; omega)
      · rw [List.mem_singleton.mp hsl]
        refine base ?_ ?_ ?_ ?_
        · exact (oqMl (by tm_at "roq") (by tm_at "roq"))
        · exact (by tm_at "roq")
        · exact (by simp only [Tm.wt]; omega)
        · exact (by simp only [Tm.wt]; omega)
      · cases hsl
  · obtain ⟨j, hj, rfl⟩ := List.mem_map.mp hs
    have l1 := oqw_ls (plc rs (.up j) rs.length)
    have l2 := oqw_ls (plc rs (.dn j) rs.length)
    have e1 := plc_len rs (.up j) rs.length
    have e2 := plc_len rs (.dn j) rs.length
    refine base ?_ ?_ ?_ ?_
    · exact (oqPl (oqMl (by tm_at "roq") (oqPl (by tm_at "roq") l1.1)) (by tm_at "roq"))
    · exact (oqPl (oqPl (by tm_at "roq") (oqMl (by tm_at "roq") l2.1)) (oqMl top (by tm_at "roq")))
    · exact (by simp only [Tm.wt]; omega)
    · exact (by simp only [Tm.wt]; omega)
theorem sys_word (m : Nat) (rs : List Rw) : ∀ s ∈ sysOf m rs, s.1 = Str.ofString "same" ∨ s.1 = Str.ofString "under" := by
  intro s hs
  unfold sysOf at hs
  simp only [List.mem_append] at hs
  rcases hs with ((hs | hs) | hs) | hs
  · unfold baseS at hs
    simp only [List.mem_cons, List.not_mem_nil, or_false] at hs
    rcases hs with rfl | rfl | rfl | rfl | rfl | rfl <;> exact .inl rfl
  · unfold timeS at hs
    simp only [List.mem_append] at hs
    rcases hs with ((((hs | hs) | hs) | hs) | hs) | hs
    · obtain ⟨j, hj, rfl⟩ := List.mem_map.mp hs
      exact .inr rfl
    · obtain ⟨j, hj, rfl⟩ := List.mem_map.mp hs
      exact .inr rfl
    · rw [List.mem_singleton.mp hs]
      exact .inl rfl
    · rw [List.mem_singleton.mp hs]
      exact .inr rfl
    · rw [List.mem_singleton.mp hs]
      exact .inl rfl
    · obtain ⟨j, hj, rfl⟩ := List.mem_map.mp hs
      exact .inl rfl
  · unfold rowsS at hs
    obtain ⟨l, hl, hsl⟩ := List.mem_flatten.mp hs
    obtain ⟨k, hk, rfl⟩ := List.mem_map.mp hl
    unfold rowS at hsl
    split at hsl
    · cases hsl
    · rw [List.mem_singleton.mp hsl]
      exact .inr rfl
    · split at hsl
      · rw [List.mem_singleton.mp hsl]
        exact .inr rfl
      · rcases List.mem_cons.mp hsl with rfl | hsl
        · exact .inr rfl
        · rw [List.mem_singleton.mp hsl]
          exact .inr rfl
    · rw [List.mem_singleton.mp hsl]
      exact .inr rfl
    · cases hsl
  · obtain ⟨j, hj, rfl⟩ := List.mem_map.mp hs
    exact .inl rfl
/-! a program's sayings can be looked at, where the numbers are not too great -/
theorem all_sum {P : Tm → Prop} (nu : ∀ n, n ≤ 20 → P (.num n)) (pl : ∀ a b, P a → P b → P (.op "plus" a b)) : ∀ ts : List Tm, (∀ t ∈ ts, P t) → P (sumT ts)
  | [], _ => nu 0 (by decide)
  | t :: ts, h => by
    show P (ts.foldl _ t)
    have go : ∀ (us : List Tm) (a : Tm), P a → (∀ t ∈ us, P t) → P (us.foldl (fun a b => Tm.op "plus" a b) a) := by
      intro us
      induction us with
      | nil => exact fun a h _ => h
      | cons u us ih => exact fun a h k => ih _ (pl _ _ h (k u List.mem_cons_self)) fun x hx => k x (List.mem_cons_of_mem _ hx)
    exact go ts t (h t List.mem_cons_self) fun x hx => h x (List.mem_cons_of_mem _ hx)
theorem sys_all {P : Tm → Prop} (nm : ∀ z, P (.name z)) (nu : ∀ n, n ≤ 20 → P (.num n)) (pl : ∀ a b, P a → P b → P (.op "plus" a b)) (ml : ∀ a b, P a → P b → P (.op "times" a b)) (p1 : P (.op "power" (.num 2) (.name "c"))) (p2 : P (pwAt (.name "s"))) (p3 : P topT)
    {m : Nat} {rs : List Rw} (h : Prg m rs) : ∀ s ∈ sysOf m rs, P s.2.1 ∧ P s.2.2 := by
  intro s hs
  have h14 := h.len
  have h5 := h.b5
  have sumP : ∀ ts : List Tm, (∀ t ∈ ts, P t) → P (sumT ts) := all_sum nu pl
  have lsP : ∀ ks, P (sumT (lsT ks)) := fun ks => sumP _ fun t ht => by
    obtain ⟨k, _, rfl⟩ := List.mem_map.mp ht
    exact nm _
  have x1 : P (sumT ((List.range m).map fun j => Tm.name (nmS "x" j))) := sumP _ fun t ht => by
    obtain ⟨k, _, rfl⟩ := List.mem_map.mp ht
    exact nm _
  have base : ∀ {a b : Tm}, P a → P b → ∀ {w : Str}, P (w, a, b).2.1 ∧ P (w, a, b).2.2 := fun h1 h2 => ⟨h1, h2⟩
  unfold sysOf at hs
  rcases List.mem_append.mp hs with hs | hs
  · rcases List.mem_append.mp hs with hs | hs
    · rcases List.mem_append.mp hs with hs | hs
      · unfold baseS at hs
        simp only [List.mem_cons, List.not_mem_nil, or_false] at hs
        rcases hs with rfl | rfl | rfl | rfl | rfl | rfl
        · refine base ?_ ?_
          · (first | exact nm _ | exact nu _ (by first | decide | omega))
          · exact (pl _ _ (pl _ _ x1 (by (first | exact nm _ | exact nu _ (by first | decide | omega)))) (by (first | exact nm _ | exact nu _ (by first | decide | omega))))
        · refine base ?_ ?_
          · (first | exact nm _ | exact nu _ (by first | decide | omega))
          · exact (ml _ _ (by (first | exact nm _ | exact nu _ (by first | decide | omega))) (by (first | exact nm _ | exact nu _ (by first | decide | omega))))
        · refine base ?_ ?_
          · (first | exact nm _ | exact nu _ (by first | decide | omega))
          · exact p1
        · refine base ?_ ?_
          · (first | exact nm _ | exact nu _ (by first | decide | omega))
          · exact (pl _ _ (by (first | exact nm _ | exact nu _ (by first | decide | omega))) (by (first | exact nm _ | exact nu _ (by first | decide | omega))))
        · refine base ?_ ?_
          · exact (pl _ _ (ml _ _ (by (first | exact nm _ | exact nu _ (by first | decide | omega))) (by (first | exact nm _ | exact nu _ (by first | decide | omega)))) (by (first | exact nm _ | exact nu _ (by first | decide | omega))))
          · exact (pl _ _ p3 (by (first | exact nm _ | exact nu _ (by first | decide | omega))))
        · refine base ?_ ?_
          · exact (pl _ _ (by (first | exact nm _ | exact nu _ (by first | decide | omega))) (by (first | exact nm _ | exact nu _ (by first | decide | omega))))
          · exact (ml _ _ (by (first | exact nm _ | exact nu _ (by first | decide | omega))) (by (first | exact nm _ | exact nu _ (by first | decide | omega))))
      · unfold timeS at hs
        rcases List.mem_append.mp hs with hs | hs
        · rcases List.mem_append.mp hs with hs | hs
          · rcases List.mem_append.mp hs with hs | hs
            · rcases List.mem_append.mp hs with hs | hs
              · rcases List.mem_append.mp hs with hs | hs
                · obtain ⟨j, hj, rfl⟩ := List.mem_map.mp hs
                  refine base ?_ ?_
                  · (first | exact nm _ | exact nu _ (by first | decide | omega))
                  · (first | exact nm _ | exact nu _ (by first | decide | omega))
                · obtain ⟨j, hj, rfl⟩ := List.mem_map.mp hs
                  refine base ?_ ?_
                  · (first | exact nm _ | exact nu _ (by first | decide | omega))
                  · (first | exact nm _ | exact nu _ (by first | decide | omega))
              · rw [List.mem_singleton.mp hs]
                have := opw_ls (List.range rs.length)
                refine base ?_ ?_
                · exact (lsP _)
                · (first | exact nm _ | exact nu _ (by first | decide | omega))
            · rw [List.mem_singleton.mp hs]
              refine base ?_ ?_
              · (first | exact nm _ | exact nu _ (by first | decide | omega))
              · (first | exact nm _ | exact nu _ (by first | decide | omega))
          · rw [List.mem_singleton.mp hs]
            have := opw_ls (stpK rs rs.length)
            refine base ?_ ?_
            · exact (lsP _)
            · exact p2
        · obtain ⟨j, hj, rfl⟩ := List.mem_map.mp hs
          refine base ?_ ?_
          · exact (pl _ _ (by (first | exact nm _ | exact nu _ (by first | decide | omega))) (ml _ _ (by (first | exact nm _ | exact nu _ (by first | decide | omega))) (by (first | exact nm _ | exact nu _ (by first | decide | omega)))))
          · exact (ml _ _ (by (first | exact nm _ | exact nu _ (by first | decide | omega))) (by (first | exact nm _ | exact nu _ (by first | decide | omega))))
    · unfold rowsS at hs
      obtain ⟨l, hl, hsl⟩ := List.mem_flatten.mp hs
      obtain ⟨k, hk, rfl⟩ := List.mem_map.mp hl
      unfold rowS at hsl
      split at hsl
      · cases hsl
      · rw [List.mem_singleton.mp hsl]
        refine base ?_ ?_
        · exact (ml _ _ (by (first | exact nm _ | exact nu _ (by first | decide | omega))) (by (first | exact nm _ | exact nu _ (by first | decide | omega))))
        · (first | exact nm _ | exact nu _ (by first | decide | omega))
      · split at hsl
        · rw [List.mem_singleton.mp hsl]
          refine base ?_ ?_
          · exact (ml _ _ (by (first | exact nm _ | exact nu _ (by first | decide | omega))) (by (first | exact nm _ | exact nu _ (by first | decide | omega))))
          · (first | exact nm _ | exact nu _ (by first | decide | omega))
        · rcases List.mem_cons.mp hsl with rfl | hsl
          · refine base ?_ ?_
            · exact (ml _ _ (by (first | exact nm _ | exact nu _ (by first | decide | omega))) (by (first | exact nm _ | exact nu _ (by first | decide | omega))))
            · exact (pl _ _ (by (first | exact nm _ | exact nu _ (by first | decide | omega))) (by (first | exact nm _ | exact nu _ (by first | decide | omega))))
          · rw [List.mem_singleton.mp hsl]
            refine base ?_ ?_
            · exact (ml _ _ (by (first | exact nm _ | exact nu _ (by first | decide | omega))) (by (first | exact nm _ | exact nu _ (by first | decide | omega))))
            · exact (pl _ _ (by (first | exact nm _ | exact nu _ (by first | decide | omega))) (by (first | exact nm _ | exact nu _ (by first | decide | omega))))
      · rw [List.mem_singleton.mp hsl]
        refine base ?_ ?_
        · exact (ml _ _ (by (first | exact nm _ | exact nu _ (by first | decide | omega))) (by (first | exact nm _ | exact nu _ (by first | decide | omega))))
        · (first | exact nm _ | exact nu _ (by first | decide | omega))
      · cases hsl
  · obtain ⟨j, hj, rfl⟩ := List.mem_map.mp hs
    refine base ?_ ?_
    · exact (pl _ _ (ml _ _ (by (first | exact nm _ | exact nu _ (by first | decide | omega))) (pl _ _ (by (first | exact nm _ | exact nu _ (by first | decide | omega))) (lsP _))) (by (first | exact nm _ | exact nu _ (by first | decide | omega))))
    · exact (pl _ _ (pl _ _ (by (first | exact nm _ | exact nu _ (by first | decide | omega))) (ml _ _ (by (first | exact nm _ | exact nu _ (by first | decide | omega))) (lsP _))) (ml _ _ p3 (by (first | exact nm _ | exact nu _ (by first | decide | omega)))))
/-- how many bits -/
def bw (B : Nat) : Tm → Nat
  | .num _ => 20
  | .name _ => B
  | .op w a b => if w = "plus" then max (bw B a) (bw B b) + 1 else if w = "times" then bw B a + bw B b else 5000
theorem bw_le {B : Nat} (hB : 5000 ≤ B) : ∀ t : Tm, bw B t ≤ t.wt * B
  | .num _ => by show 20 ≤ 1 * B; omega
  | .name _ => by show B ≤ 1 * B; omega
  | .op w a b => by
    have h1 := bw_le hB a
    have h2 := bw_le hB b
    have e : (Tm.op w a b).wt * B = a.wt * B + b.wt * B + 2 * B := by
      show (a.wt + b.wt + 2) * B = _
      rw [Nat.add_mul, Nat.add_mul]
    rw [e]
    show (if w = "plus" then max (bw B a) (bw B b) + 1 else if w = "times" then bw B a + bw B b else 5000) ≤ _
    split
    · omega
    · split <;> omega
theorem bw_pos {B : Nat} (hB : 1 ≤ B) : ∀ t : Tm, 1 ≤ bw B t
  | .num _ => by show 1 ≤ 20; decide
  | .name _ => hB
  | .op w a b => by
    have h1 := bw_pos hB a
    have h2 := bw_pos hB b
    show 1 ≤ (if w = "plus" then max (bw B a) (bw B b) + 1 else if w = "times" then bw B a + bw B b else 5000)
    split
    · omega
    · split <;> omega
/-- a name with its number -/
def NOk (kvs : List (Key × V)) (g : Str → Nat) (B : Nat) (z : Str) : Prop := valV kvs (.inr z) = some (.int (g z : Nat)) ∧ g z < 2 ^ B
def TB (kvs : List (Key × V)) (g : Str → Nat) (B : Nat) (t : Tm) : Prop := t.wt ≤ 100 → (∀ z ∈ t.nms, NOk kvs g B z) → TmOk kvs g t ∧ ev g t < 2 ^ bw B t
theorem tb_mono {x m n : Nat} (h : x < 2 ^ m) (l : m ≤ n) : x < 2 ^ n := Nat.lt_of_lt_of_le h (Nat.pow_le_pow_right (by decide) l)
section
variable {kvs : List (Key × V)} {g : Str → Nat} {B : Nat}
theorem tb_name (hB2 : B ≤ 9000) (z : Str) : TB kvs g B (.name z) := fun _ h => by
  have h := h z (List.mem_singleton.mpr rfl)
  exact ⟨⟨h.1, B, h.2, by omega⟩, h.2⟩
theorem tb_num {n : Nat} (hn : n ≤ 20) : TB kvs g B (.num n) := fun _ _ => by
  have h : n < 2 ^ 20 := Nat.lt_of_le_of_lt hn (by decide)
  exact ⟨⟨20, h, by decide⟩, h⟩
theorem tb_plus (hB : 5000 ≤ B) (hB2 : B ≤ 9000) {a b : Tm} (ha : TB kvs g B a) (hb : TB kvs g B b) : TB kvs g B (.op "plus" a b) := fun hw h => by
  have hw : a.wt + b.wt + 2 ≤ 100 := hw
  obtain ⟨a1, a2⟩ := ha (by omega) fun z hz => h z (List.mem_append_left _ hz)
  obtain ⟨b1, b2⟩ := hb (by omega) fun z hz => h z (List.mem_append_right _ hz)
  have l1 := bw_le hB a
  have l2 := bw_le hB b
  have k1 : a.wt * B ≤ 98 * 9000 := Nat.mul_le_mul (by omega) hB2
  have k2 : b.wt * B ≤ 98 * 9000 := Nat.mul_le_mul (by omega) hB2
  have m1 := bw_pos (B := B) (by omega) a
  have a3 := tb_mono a2 (Nat.le_max_left (bw B a) (bw B b))
  have b3 := tb_mono b2 (Nat.le_max_right (bw B a) (bw B b))
  refine ⟨⟨by decide +kernel, by decide +kernel, a1, b1, max (bw B a) (bw B b), by omega, a3, .inl ⟨rfl, b3, by omega⟩⟩, ?_⟩
  show cm "plus" (ev g a) (ev g b) < 2 ^ (if Str.ofString "plus" = "plus" then max (bw B a) (bw B b) + 1 else _)
  rw [if_pos rfl, Nat.pow_succ]
  show (if Str.ofString "plus" = "plus" then ev g a + ev g b else _) < _
  rw [if_pos rfl]
  omega
theorem tb_times (hB : 5000 ≤ B) (hB2 : B ≤ 9000) {a b : Tm} (ha : TB kvs g B a) (hb : TB kvs g B b) : TB kvs g B (.op "times" a b) := fun hw h => by
  have hw : a.wt + b.wt + 2 ≤ 100 := hw
  obtain ⟨a1, a2⟩ := ha (by omega) fun z hz => h z (List.mem_append_left _ hz)
  obtain ⟨b1, b2⟩ := hb (by omega) fun z hz => h z (List.mem_append_right _ hz)
  have l1 := bw_le hB a
  have l2 := bw_le hB b
  have k1 : (a.wt + b.wt) * B ≤ 98 * 9000 := Nat.mul_le_mul (by omega) hB2
  rw [Nat.add_mul] at k1
  have m1 := bw_pos (B := B) (by omega) a
  have ne : ¬ Str.ofString "times" = Str.ofString "plus" := by decide +kernel
  refine ⟨⟨by decide +kernel, by decide +kernel, a1, b1, bw B a, m1, a2, .inr (.inl ⟨rfl, bw B b, b2, by omega⟩)⟩, ?_⟩
  show cm "times" (ev g a) (ev g b) < 2 ^ (if Str.ofString "times" = "plus" then _ else if Str.ofString "times" = "times" then bw B a + bw B b else _)
  rw [if_neg ne, if_pos rfl, Nat.pow_add]
  show (if Str.ofString "times" = "plus" then _ else if Str.ofString "times" = "times" then ev g a * ev g b else _) < _
  rw [if_neg ne, if_pos rfl]
  exact Nat.mul_lt_mul'' a2 b2
theorem tb_pow {t : Tm} (hv : (∀ z ∈ t.nms, NOk kvs g B z) → ev g t < 5000) (ht : TB kvs g B t) : TB kvs g B (.op "power" (.num 2) t) := fun hw h => by
  have hw : 1 + t.wt + 2 ≤ 100 := hw
  have hz : ∀ z ∈ t.nms, NOk kvs g B z := fun z hz => h z (List.mem_append_right _ hz)
  obtain ⟨b1, b2⟩ := ht (by omega) hz
  have hv := hv hz
  have n1 : ¬ Str.ofString "power" = Str.ofString "plus" := by decide +kernel
  have n2 : ¬ Str.ofString "power" = Str.ofString "times" := by decide +kernel
  refine ⟨⟨by decide +kernel, by decide +kernel, ⟨20, by show 2 < 2 ^ 20; decide, by decide⟩, b1, 2, by decide, by show 2 < 2 ^ 2; decide, .inr (.inr ⟨n1, n2, pw_of (by show 2 < 2 ^ 2; decide) (by decide) (by omega)⟩)⟩, ?_⟩
  show cm "power" 2 (ev g t) < 2 ^ (if Str.ofString "power" = "plus" then _ else if Str.ofString "power" = "times" then _ else 5000)
  rw [if_neg n1, if_neg n2]
  show (if Str.ofString "power" = "plus" then _ else if Str.ofString "power" = "times" then _ else 2 ^ ev g t) < _
  rw [if_neg n1, if_neg n2]
  exact Nat.pow_lt_pow_right (by decide) hv
end
theorem dep_wt3 : ∀ t : Tm, 3 * t.dep + 1 ≤ t.wt
  | .num _ => Nat.le_refl _
  | .name _ => Nat.le_refl _
  | .op w a b => by
    have h1 := dep_wt3 a
    have h2 := dep_wt3 b
    show 3 * (max a.dep b.dep + 1) + 1 ≤ a.wt + b.wt + 2
    omega
/-- every saying of a program can be looked at -/
theorem sys_tm {kvs : List (Key × V)} {g : Str → Nat} {B m : Nat} {rs : List Rw} (h : Prg m rs) (hB : 5000 ≤ B) (hB2 : B ≤ 9000) (hN : ∀ z ∈ namesL m rs.length (asked m rs), NOk kvs g B z) (ht : g "c" * (g "s" + 1) < 5000) :
    ∀ s ∈ sysOf m rs, (TmOk kvs g s.2.1 ∧ s.2.1.dep ≤ 39 ∧ s.2.1.wt ≤ 100) ∧ (TmOk kvs g s.2.2 ∧ s.2.2.dep ≤ 39 ∧ s.2.2.wt ≤ 100) := by
  have c1 : g "c" < 5000 := by
    have h1 := Nat.le_mul_of_pos_right (g "c") (Nat.succ_pos (g "s"))
    exact Nat.lt_of_le_of_lt h1 ht
  have c2 : g "c" * g "s" < 5000 := by
    have : g "c" * g "s" ≤ g "c" * (g "s" + 1) := Nat.mul_le_mul_left _ (Nat.le_succ _)
    omega
  have np : ¬ Str.ofString "times" = Str.ofString "plus" := by decide +kernel
  have all := sys_all (P := TB kvs g B) (tb_name hB2) (fun n hn => tb_num hn) (fun a b => tb_plus hB hB2) (fun a b => tb_times hB hB2) (tb_pow (fun _ => c1) (tb_name hB2 _))
    (tb_pow (fun _ => by
      show cm "times" (g "c") (g "s") < 5000
      unfold cm
      rw [if_neg np, if_pos rfl]
      exact c2) (tb_times hB hB2 (tb_name hB2 _) (tb_name hB2 _)))
    (tb_pow (fun _ => by
      show cm "times" (g "c") (cm "plus" (g "s") 1) < 5000
      unfold cm
      rw [if_neg np, if_pos rfl, if_pos rfl]
      exact ht) (tb_times hB hB2 (tb_name hB2 _) (tb_plus hB hB2 (tb_name hB2 _) (tb_num (by decide))))) h
  intro s hs
  obtain ⟨h1, h2⟩ := all s hs
  obtain ⟨_, _, w1, w2⟩ := sys_ok2 h s hs
  have d1 := dep_wt3 s.2.1
  have d2 := dep_wt3 s.2.2
  have n1 : ∀ z ∈ s.2.1.nms, NOk kvs g B z := fun z hz => hN z (nms_in h (mem_nmSys.mpr ⟨s, hs, .inl hz⟩))
  have n2 : ∀ z ∈ s.2.2.nms, NOk kvs g B z := fun z hz => hN z (nms_in h (mem_nmSys.mpr ⟨s, hs, .inr hz⟩))
  exact ⟨⟨(h1 w1 n1).1, by omega, w1⟩, ⟨(h2 w2 n2).1, by omega, w2⟩⟩
/-- a saying of two terms that can be looked at by kvs -/
def LookOk (kvs : List (Key × V)) (s : SyW) : Prop := (s.1 = "same" ∨ s.1 = "under") ∧ TmOk kvs (gOf kvs) s.2.1 ∧ TmOk kvs (gOf kvs) s.2.2 ∧ s.2.1.dep ≤ 39 ∧ s.2.2.dep ≤ 39 ∧ s.2.1.wt ≤ 10000 ∧ s.2.2.wt ≤ 10000
def holdB (kvs : List (Key × V)) (s : SyW) : Bool := if s.1 = "under" then decide (ev (gOf kvs) s.2.1 &&& ev (gOf kvs) s.2.2 = ev (gOf kvs) s.2.1) else decide (ev (gOf kvs) s.2.1 = ev (gOf kvs) s.2.2)
/-! lists of sayings that can be looked at -/
theorem sys_holds {K : PySem.W.Frag} {H : Hp} {kvs : List (Key × V)} : ∀ {vs : List V} {ss : List SyW}, SysAt K H vs ss → (∀ s ∈ ss, LookOk kvs s) → Paired (HoldsOk K H kvs (gOf kvs)) vs (ss.map (holdB kvs))
  | _, [], .nil, _ => .nil
  | _, s :: ss, .cons a r, h => by
    obtain ⟨l, rr, h1, h2, h3⟩ := a
    obtain ⟨_, o1, o2, _, _, w1, w2⟩ := h s List.mem_cons_self
    exact .cons ⟨s.1, l, rr, s.2.1, s.2.2, h1, h2, h3, o1, o2, w1, w2, rfl⟩ (sys_holds r fun x hx => h x (List.mem_cons_of_mem _ hx))
theorem paired_drop {α β : Type} {R : α → β → Prop} : ∀ {l : List α} {m : List β} (n : Nat), Paired R l m → Paired R (l.drop n) (m.drop n)
  | _, _, 0, h => h
  | _, _, _ + 1, .nil => .nil
  | _, _, n + 1, .cons _ t => paired_drop n t
theorem SyAt.ref {K : PySem.W.Frag} {H : Hp} {v : V} {s : SyW} (h : SyAt K H v s) : ∃ p, v = V.ref p := by
  obtain ⟨l, r, h, _⟩ := h
  obtain ⟨p, _, _, e, _⟩ := h
  exact ⟨p, e⟩
theorem SysAt.refs {K : PySem.W.Frag} {H : Hp} {vs : List V} {ss : List SyW} (h : SysAt K H vs ss) : ∀ v ∈ vs, ∃ p, v = V.ref p := fun v hv => by
  obtain ⟨i, hi⟩ := List.mem_iff_getElem?.mp hv
  obtain ⟨s, _, hs⟩ := paired_get h hi
  exact hs.ref
/-! an answer's numbers are natural numbers, none too great -/
theorem low_nm : ∀ j < 14, (∀ c ∈ (nmS "x" j).cps.toList, c < 128) ∧ (∀ c ∈ (nmS "y" j).cps.toList, c < 128) ∧ (∀ c ∈ (nmS "r" j).cps.toList, c < 128) ∧ (∀ c ∈ (nmS "l" j).cps.toList, c < 128) ∧ ∀ c ∈ (nmS "e" j).cps.toList, c < 128 := by decide +kernel
def NE (M : Nat) (p : Key × V) : Prop := ∃ (s : Str) (v : Int), p = kvE s v ∧ 0 ≤ v ∧ v < (M : Int) ∧ Low s
theorem dic_merge {M : Nat} : ∀ (L kvs : List (Key × V)) (ys : List Str), DicOk kvs ys M → (∀ p ∈ L, NE M p) → ∀ zs : List Str, (∀ z ∈ zs, z ∈ ys ∨ ∃ p ∈ L, p.1 = Sum.inr z) → DicOk (mergeK kvs L) zs M
  | [], kvs, ys, h, _, zs, hz => h.sub fun z hzz => by
    rcases hz z hzz with h | ⟨p, hp, _⟩
    · exact h
    · cases hp
  | p :: L, kvs, ys, h, hL, zs, hz => by
    obtain ⟨s, v, e, v0, v1, hs⟩ := hL p List.mem_cons_self
    obtain ⟨n, rfl⟩ := Int.eq_ofNat_of_zero_le v0
    subst e
    refine dic_merge L (putK kvs (.inr s) (.int (n : Nat))) (ys ++ [s]) (h.put s hs (by omega)) (fun q hq => hL q (List.mem_cons_of_mem _ hq)) zs fun z hzz => ?_
    rcases hz z hzz with h | ⟨q, hq, e⟩
    · exact .inl (List.mem_append_left _ h)
    · rcases List.mem_cons.mp hq with rfl | hq
      · have e : (Sum.inr s : Key) = Sum.inr z := e
        exact .inl (List.mem_append_right _ (by rw [Sum.inr.inj e]; exact List.mem_singleton.mpr rfl))
      · exact .inr ⟨q, hq, e⟩
/-- what an answer asks of c -/
structure AnB (m : Nat) (rs : List Rw) (bs ys : List Nat) (ss : List (Nat × List Nat)) (c : Nat) : Prop where
  c1 : 1 ≤ c
  m5 : m ≤ 5
  n14 : rs.length ≤ 14
  sb : bs.sum + 1 ≤ 2 ^ (c - 1)
  bb : ∀ j, bs.getD j 0 < 2 ^ c
  yb : ∀ j, ys.getD j 0 < 2 ^ c
  nl : rs.length + 1 ≤ 2 ^ c
  ce : ∀ t j, cell ss t j + 1 ≤ 2 ^ (c - 1)
  s1 : 1 ≤ ss.length
  sz : c * (ss.length + 1) ≤ 5000
theorem rS_bd {h : Int} {c j : Nat} {ss : List (Nat × List Nat)} (hc : ∀ t, (cell ss t j : Int) ≤ h) : ∀ n, 0 ≤ ((List.range n).map fun t => (cell ss t j : Int) * 2 ^ (c * t)).sum ∧ ((List.range n).map fun t => (cell ss t j : Int) * 2 ^ (c * t)).sum ≤ h * iS c n
  | 0 => by unfold iS; simp
  | n + 1 => by
    obtain ⟨h1, h2⟩ := rS_bd (h := h) (c := c) hc n
    rw [List.range_succ, List.map_append, List.sum_append, iS_succ, Int.mul_add]
    have p : (0 : Int) < 2 ^ (c * n) := Int.pow_pos (by decide)
    have q : (cell ss n j : Int) * 2 ^ (c * n) ≤ h * 2 ^ (c * n) := Int.mul_le_mul_of_nonneg_right (hc n) (Int.le_of_lt p)
    have r : 0 ≤ (cell ss n j : Int) * 2 ^ (c * n) := Int.mul_nonneg (by omega) (Int.le_of_lt p)
    simp only [List.map_cons, List.map_nil, List.sum_cons, List.sum_nil]
    omega
theorem lS_bd {c : Nat} (p : Nat → Bool) : ∀ n, 0 ≤ (((List.range n).filter p).map fun t => (2 : Int) ^ (c * t)).sum ∧ (((List.range n).filter p).map fun t => (2 : Int) ^ (c * t)).sum ≤ iS c n
  | 0 => by unfold iS; simp
  | n + 1 => by
    obtain ⟨h1, h2⟩ := lS_bd (c := c) p n
    rw [List.range_succ, List.filter_append, List.map_append, List.sum_append, iS_succ, filt1]
    have q : (0 : Int) < 2 ^ (c * n) := Int.pow_pos (by decide)
    split
    · simp only [List.map_cons, List.map_nil, List.sum_cons, List.sum_nil]
      omega
    · simp only [List.map_nil, List.sum_nil]
      omega
theorem i_nat {a b : Nat} (h : a ≤ b) : ((2 ^ a : Nat) : Int) ≤ ((2 ^ b : Nat) : Int) := by exact_mod_cast Nat.pow_le_pow_right (by decide) h
section
variable {m c : Nat} {rs : List Rw} {bs ys : List Nat} {ss : List (Nat × List Nat)}
theorem AnB.big (h : AnB m rs bs ys ss c) : (2 : Int) ^ c * 2 ^ (c * ss.length) ≤ ((2 ^ 5000 : Nat) : Int) := by
  rw [← Int.pow_add, pow2_nat]
  refine i_nat ?_
  have := h.sz
  rw [Nat.mul_succ] at this
  omega
theorem AnB.ents (h : AnB m rs bs ys ss c) : ∀ p ∈ ansD m rs bs ys ss c, NE (2 ^ 5000) p := by
  have c1 := h.c1
  have m5 := h.m5
  have n14 := h.n14
  have big := h.big
  obtain ⟨d, hd⟩ : ∃ d, c = d + 1 := ⟨c - 1, by omega⟩
  have e2 : (2 : Int) ^ c = 2 * 2 ^ (c - 1) := by rw [hd, Int.pow_succ, Nat.add_sub_cancel]; omega
  obtain ⟨i0, i1⟩ := iS_bd c1 ss.length
  have h0 : (0 : Int) < 2 ^ (c - 1) := Int.pow_pos (by decide)
  have I1 : (2 : Int) ≤ 2 ^ (c * ss.length) := by
    have h1 : 1 ≤ c * ss.length := Nat.mul_pos c1 h.s1
    have h2 := i_nat h1
    rw [pow2_nat]
    exact h2
  have qb : (2 : Int) ^ c * 2 ≤ 2 ^ c * 2 ^ (c * ss.length) := Int.mul_le_mul_of_nonneg_left I1 (by omega)
  have Ib : (2 : Int) * 2 ^ (c * ss.length) ≤ 2 ^ c * 2 ^ (c * ss.length) := Int.mul_le_mul_of_nonneg_right (by omega) (by omega)
  have hi : (2 : Int) ^ (c - 1) * iS c ss.length < 2 ^ (c - 1) * 2 ^ (c * ss.length) := Int.mul_lt_mul_of_pos_left i1 h0
  have qi : (2 : Int) ^ c * iS c ss.length = 2 * (2 ^ (c - 1) * iS c ss.length) := by rw [e2, Int.mul_assoc]
  have qI : (2 : Int) ^ c * 2 ^ (c * ss.length) = 2 * (2 ^ (c - 1) * 2 ^ (c * ss.length)) := by rw [e2, Int.mul_assoc]
  have hi0 : 0 ≤ (2 : Int) ^ (c - 1) * iS c ss.length := Int.mul_nonneg (by omega) i0
  have m1 : ((2 : Int) ^ (c - 1) - 1) * iS c ss.length = 2 ^ (c - 1) * iS c ss.length - iS c ss.length := by rw [Int.sub_mul, Int.one_mul]
  have mi : iS c ss.length ≤ (2 : Int) ^ (c - 1) * iS c ss.length := by
    have := Int.mul_le_mul_of_nonneg_right (show (1 : Int) ≤ 2 ^ (c - 1) by omega) i0
    omega
  have sb : ((bs.sum : Nat) : Int) + 1 ≤ 2 ^ (c - 1) := by rw [pow2_nat]; have := h.sb; omega
  have nl : ((rs.length : Nat) : Int) + 1 ≤ 2 ^ c := by rw [pow2_nat]; have := h.nl; omega
  have rb : ∀ j, 0 ≤ rS c ss j ∧ rS c ss j ≤ ((2 : Int) ^ (c - 1) - 1) * iS c ss.length := fun j => rS_bd (fun t => by rw [pow2_nat]; have := h.ce t j; omega) _
  have lb : ∀ k, 0 ≤ lS c ss k ∧ lS c ss k ≤ iS c ss.length := fun k => lS_bd _ _
  have cs : ((c : Nat) : Int) < 2 ^ c := by rw [pow2_nat]; have := @Nat.lt_two_pow_self c; omega
  have sn : ((ss.length : Nat) : Int) < 2 ^ (c * ss.length) := by
    have h1 : ss.length ≤ c * ss.length := Nat.le_mul_of_pos_left _ c1
    have h2 := @Nat.lt_two_pow_self ss.length
    have h3 := i_nat h1
    rw [pow2_nat]
    omega
  have s1 := h.s1
  have lows : ∀ z ∈ ["s", "c", "h", "d", "q", "g", "i", "m"].map Str.ofString, Low z := by
    intro z hz
    have : (["s", "c", "h", "d", "q", "g", "i", "m"].map Str.ofString).all (fun z => z.cps.toList.all fun c => decide (c < 128)) = true := by decide +kernel
    intro c hc
    exact of_decide_eq_true (List.all_eq_true.mp (List.all_eq_true.mp this z hz) c hc)
  intro p hp
  unfold ansD at hp
  rcases List.mem_append.mp hp with hp | hp
  · rcases List.mem_append.mp hp with hp | hp
    · rcases List.mem_append.mp hp with hp | hp
      · rcases List.mem_append.mp hp with hp | hp
        · rcases List.mem_append.mp hp with hp | hp
          · obtain ⟨j, hj, rfl⟩ := List.mem_map.mp hp
            have hj := List.mem_range.mp hj
            have := h.bb j
            have e := pow2_nat c
            exact ⟨_, _, rfl, by omega, by omega, (low_nm j (by omega)).1⟩
          · obtain ⟨j, hj, rfl⟩ := List.mem_map.mp hp
            have hj := List.mem_range.mp hj
            have := h.yb j
            have e := pow2_nat c
            exact ⟨_, _, rfl, by omega, by omega, (low_nm j (by omega)).2.1⟩
        · unfold an8 at hp
          simp only [List.mem_cons, List.not_mem_nil, or_false] at hp
          rcases hp with rfl | rfl | rfl | rfl | rfl | rfl | rfl | rfl
          all_goals refine ⟨_, _, rfl, ?_, ?_, lows _ (by simp)⟩ <;> omega
      · obtain ⟨j, hj, rfl⟩ := List.mem_map.mp hp
        have hj := List.mem_range.mp hj
        have := rb j
        exact ⟨_, _, rfl, by omega, by omega, (low_nm j (by omega)).2.2.1⟩
    · obtain ⟨j, hj, rfl⟩ := List.mem_map.mp hp
      have hj := List.mem_range.mp hj
      have := lb j
      exact ⟨_, _, rfl, by omega, by omega, (low_nm j (by omega)).2.2.2.1⟩
  · obtain ⟨j, hj, rfl⟩ := List.mem_map.mp hp
    have hj := asked_lt j hj
    have := rb j
    exact ⟨_, _, rfl, by omega, by omega, (low_nm j (by omega)).2.2.2.2⟩
theorem ans_names : ∀ z ∈ namesL m rs.length (asked m rs), ∃ p ∈ ansD m rs bs ys ss c, p.1 = Sum.inr z := by
  intro z hz
  unfold ansD
  rcases mem_namesL.mp hz with ⟨j, hj, rfl⟩ | ⟨j, hj, rfl⟩ | hz | ⟨j, hj, rfl⟩ | ⟨j, hj, rfl⟩ | ⟨j, hj, rfl⟩
  · exact ⟨_, List.mem_append_left _ (List.mem_append_left _ (List.mem_append_left _ (List.mem_append_left _ (List.mem_append_left _ (List.mem_map.mpr ⟨j, List.mem_range.mpr hj, rfl⟩))))), rfl⟩
  · exact ⟨_, List.mem_append_left _ (List.mem_append_left _ (List.mem_append_left _ (List.mem_append_left _ (List.mem_append_right _ (List.mem_map.mpr ⟨j, List.mem_range.mpr hj, rfl⟩))))), rfl⟩
  · have : ∃ p ∈ an8 c ss.length rs.length bs.sum, p.1 = Sum.inr z := by
      rcases nm8_mem.mp hz with rfl | rfl | rfl | rfl | rfl | rfl | rfl | rfl
      all_goals (unfold an8 kvE; simp)
    obtain ⟨p, hp, e⟩ := this
    exact ⟨p, List.mem_append_left _ (List.mem_append_left _ (List.mem_append_left _ (List.mem_append_right _ hp))), e⟩
  · exact ⟨_, List.mem_append_left _ (List.mem_append_left _ (List.mem_append_right _ (List.mem_map.mpr ⟨j, List.mem_range.mpr hj, rfl⟩))), rfl⟩
  · exact ⟨_, List.mem_append_left _ (List.mem_append_right _ (List.mem_map.mpr ⟨j, List.mem_range.mpr hj, rfl⟩)), rfl⟩
  · exact ⟨_, List.mem_append_right _ (List.mem_map.mpr ⟨j, hj, rfl⟩), rfl⟩
theorem AnB.dic (h : AnB m rs bs ys ss c) : DicOk (mergeK [] (ansD m rs bs ys ss c)) (namesL m rs.length (asked m rs)) (2 ^ 5000) :=
  dic_merge _ _ _ DicOk.nil h.ents _ fun z hz => .inr (ans_names z hz)
end
theorem run_bdA {m : Nat} {rs : List Rw} {bs : List Nat} {M : Nat} (hg : Prg m rs) (hl : bs.length = m) (hc : ∀ c ∈ bs, c ≤ 1000) (hM : M ≤ 1000) : SdBd (runL rs M (0, bs)) 100000 := fun s hs => by
  have o := runL_ok hg (SOk.start hg hl hc) s hs
  have b1 := hg.b1
  have b5 := hg.b5
  refine ⟨fun e => ?_, by rw [o.l]; exact b5, fun c h => Nat.le_trans (o.c c h) (by omega)⟩
  have := o.l
  rw [e] at this
  have : (0 : Nat) = m := this
  omega
theorem smN_sum : ∀ l : List Nat, smN l = l.sum
  | [] => rfl
  | x :: l => by
    show x + smN l = _
    rw [List.sum_cons, smN_sum l]
theorem getD_le {l : List Nat} {j M : Nat} (h : ∀ x ∈ l, x ≤ M) : l.getD j 0 ≤ M := by
  rw [List.getD_eq_getElem?_getD]
  cases e : l[j]? with
  | none => exact Nat.zero_le _
  | some x => exact h x (List.mem_of_getElem? e)
/-- what a run that stops brings -/
structure RunB (m : Nat) (rs : List Rw) (bs : List Nat) (ss : List (Nat × List Nat)) : Prop where
  bd : SdBd ss 100000
  ln : ∀ s ∈ ss, s.2.length = m
  hd : ∃ l, ss = (0, bs) :: l
theorem StpOk.runB {m M : Nat} {rs : List Rw} {bs : List Nat} {ss : List (Nat × List Nat)} (ho : StpOk m rs bs ss M) (hM : M ≤ 500) : RunB m rs bs ss := by
  have hsl := ho.sl
  have c1000 : ∀ c ∈ bs, c ≤ 1000 := fun c hc => Nat.le_trans (ho.bd c hc) (by decide)
  have e := ho.st.run (N := 999) (by omega)
  refine ⟨?_, ?_, ho.st.head⟩
  · have := run_bdA (M := 999) ho.pr ho.ln c1000 (by decide)
    rw [e] at this
    exact this
  · intro s hs
    rw [← e] at hs
    exact (runL_ok ho.pr (SOk.start ho.pr ho.ln c1000) s hs).l
theorem cL_bd {m : Nat} {rs : List Rw} {bs : List Nat} {ss : List (Nat × List Nat)} (h : RunB m rs bs ss) (n14 : rs.length ≤ 14) : cL (grt ss) rs.length ≤ 20 := by
  have hg := grt_bd h.bd (by decide)
  have h1 : btsN (grt ss) ≤ 19 := btsN_le (Nat.lt_of_le_of_lt hg (by decide))
  have h2 : btsN rs.length ≤ 4 := btsN_le (Nat.lt_of_le_of_lt n14 (by decide))
  unfold cL
  omega
theorem AnB.of {m M c : Nat} {rs : List Rw} {bs ys : List Nat} {ss pre : List (Nat × List Nat)} {k0 : Nat} (ho : StpOk m rs bs ss M) (hM : M ≤ 100) (hss : ss = pre ++ [(k0, ys)]) (hc : cL (grt ss) rs.length ≤ c) (hc2 : c ≤ cL (grt ss) rs.length + 10) : AnB m rs bs ys ss c := by
  have R := ho.runB (by omega)
  have hsl := ho.sl
  have n14 := ho.pr.len
  have h20 := cL_bd R n14
  have c1 : 1 ≤ c := Nat.le_trans cL_pos hc
  have hno := fun h => Nat.not_lt.mpr hc ((cL_lt (G := grt ss) (n := rs.length) c1).mp h)
  have hG : grt ss < 2 ^ (c - 1) := Nat.lt_of_not_le fun h => hno (.inl h)
  have hn : rs.length < 2 ^ c := Nat.lt_of_not_le fun h => hno (.inr h)
  have hcell : ∀ s ∈ ss, ∀ x ∈ s.2, x ≤ grt ss := fun s hs x hx => by
    refine Nat.le_trans (mxN_le hx) ?_
    unfold grt
    exact mxN_le (List.mem_cons_of_mem _ (List.mem_map.mpr ⟨s, hs, rfl⟩))
  have h12 : 2 ^ (c - 1) ≤ 2 ^ c := Nat.pow_le_pow_right (by decide) (by omega)
  obtain ⟨l, hl⟩ := R.hd
  have hb0 : (0, bs) ∈ ss := by rw [hl]; exact List.mem_cons_self
  have hy0 : (k0, ys) ∈ ss := by rw [hss]; simp
  refine ⟨c1, ho.pr.b5, n14, ?_, fun j => ?_, fun j => ?_, by omega, fun t j => ?_, ?_, ?_⟩
  · have : smN bs ≤ grt ss := by
      unfold grt
      refine mxN_le ?_
      rw [hl]
      exact List.mem_cons_self
    rw [smN_sum] at this
    omega
  · have := getD_le (j := j) (hcell _ hb0)
    have : bs.getD j 0 ≤ grt ss := this
    omega
  · have := getD_le (j := j) (hcell _ hy0)
    have : ys.getD j 0 ≤ grt ss := this
    omega
  · unfold cell
    split
    · rename_i r cs e
      have := getD_le (j := j) (hcell _ (List.mem_of_getElem? e))
      have : cs.getD j 0 ≤ grt ss := this
      omega
    · omega
  · rw [hl]
    exact Nat.le_add_left 1 _
  · have h1 : c * (ss.length + 1) ≤ 30 * 102 := Nat.mul_le_mul (by omega) (by omega)
    omega
theorem nm1_ne {c d : Str} {x : Nat} {y : Nat} (hx : c.cps.toList.head? = some x) (hy : d.cps.toList.head? = some y) (n : x ≠ y) {l : List Nat} {f : Nat → Int} : ∀ q ∈ l.map fun j => kvE (nmS c j) (f j), q.1 ≠ .inr d := fun q hq e => by
  obtain ⟨k, _, rfl⟩ := List.mem_map.mp hq
  exact nmS_ne1 hx hy n k (Sum.inr.inj e)
theorem ans_cs {m c : Nat} {rs : List Rw} {bs ys : List Nat} {ss : List (Nat × List Nat)} (h : AnB m rs bs ys ss c) : gOf (mergeK [] (ansD m rs bs ys ss c)) "c" = c ∧ gOf (mergeK [] (ansD m rs bs ys ss c)) "s" = ss.length - 1 := by
  have s1 := h.s1
  have off : ∀ z : Str, (∃ y, z.cps.toList.head? = some y ∧ 114 ≠ y ∧ 108 ≠ y ∧ 101 ≠ y) → valV (mergeK [] (ansD m rs bs ys ss c)) (.inr z) = valV (mergeK [] (anX m bs ++ anY m ys ++ an8 c ss.length rs.length bs.sum)) (.inr z) := by
    rintro z ⟨y, hy, n1, n2, n3⟩
    have e1 : ∀ q ∈ anE m c rs ss, q.1 ≠ .inr z := nm1_ne (c := "e") (x := 101) (by decide +kernel) hy n3
    have e2 : ∀ q ∈ anL rs.length c ss, q.1 ≠ .inr z := nm1_ne (c := "l") (x := 108) (by decide +kernel) hy n2
    have e3 : ∀ q ∈ anR m c ss, q.1 ≠ .inr z := nm1_ne (c := "r") (x := 114) (by decide +kernel) hy n1
    unfold ansD
    rw [merge_app, merge_off _ _ e1, merge_app, merge_off _ _ e2, merge_app, merge_off _ _ e3]
  have e8 : an8 c ss.length rs.length bs.sum = [kvE "s" ((ss.length : Int) - 1), kvE "c" (c : Nat)] ++ (an8 c ss.length rs.length bs.sum).drop 2 := rfl
  have hc : valV (mergeK [] (ansD m rs bs ys ss c)) (.inr (Str.ofString "c")) = some (.int (c : Nat)) := by
    rw [off "c" ⟨99, rfl, by decide, by decide, by decide⟩]
    rw [show an8 c ss.length rs.length bs.sum = [kvE "s" ((ss.length : Int) - 1)] ++ (kvE "c" (c : Nat) :: (an8 c ss.length rs.length bs.sum).drop 2) from rfl, ← List.append_assoc]
    refine merge_at _ _ _ ?_
    intro q hq
    unfold an8 kvE at hq
    simp only [List.drop, List.mem_cons, List.not_mem_nil, or_false] at hq
    rcases hq with rfl | rfl | rfl | rfl | rfl | rfl <;> (intro e; exact absurd (Sum.inr.inj e) (by decide))
  have hs : valV (mergeK [] (ansD m rs bs ys ss c)) (.inr (Str.ofString "s")) = some (.int ((ss.length : Int) - 1)) := by
    rw [off "s" ⟨115, rfl, by decide, by decide, by decide⟩]
    rw [show an8 c ss.length rs.length bs.sum = kvE "s" ((ss.length : Int) - 1) :: (an8 c ss.length rs.length bs.sum).drop 1 from rfl]
    refine merge_at _ _ _ ?_
    intro q hq
    unfold an8 kvE at hq
    simp only [List.drop, List.mem_cons, List.not_mem_nil, or_false] at hq
    rcases hq with rfl | rfl | rfl | rfl | rfl | rfl | rfl <;> (intro e; exact absurd (Sum.inr.inj e) (by decide))
  unfold gOf
  rw [hc, hs]
  exact ⟨rfl, by show ((ss.length : Int) - 1).toNat = _; omega⟩
theorem sys_len (m : Nat) (rs : List Rw) (h : Prg m rs) : 1 ≤ (sysOf m rs).length ∧ (sysOf m rs).length ≤ 66 := by
  have h1 := timeS_len m rs
  have h2 := rowsS_len rs rs.length
  have h3 := asked_le m rs
  have h4 := baseS_len m rs.length
  have h5 := h.b5
  have h6 := h.len
  unfold sysOf
  rw [List.length_append, List.length_append, List.length_append, List.length_map, List.length_range]
  omega
structure L43 (K : PySem.W.Frag) (H : Hp) (a D q : Addr) (ns : List Int) (kvs : List (Key × V)) (xs : List V) (ss : List SyW) : Prop where
  scr : SqF K H a (ns.map V.int)
  dic : H D = some (.dK kvs)
  lst : H q = some (.lst xs)
  tms : TmsAt K H xs (ss.map opS)
theorem L43.sm {K : PySem.W.Frag} {H H' : Hp} {a D q : Addr} {ns : List Int} {kvs : List (Key × V)} {xs : List V} {ss : List SyW} (h : L43 K H a D q ns kvs xs ss) (e : Sm H H') : L43 K H' a D q ns kvs xs ss := ⟨h.scr.sm e, e _ _ h.dic, e _ _ h.lst, h.tms.sm e⟩
theorem L43.kb {K : PySem.W.Frag} {H H' : Hp} {a D q b : Addr} {ns : List Int} {kvs : List (Key × V)} {xs : List V} {ss : List SyW} (h : L43 K H a D q ns kvs xs ss) (hb : BoxAt H b) (n1 : D ≠ b) (n2 : q ≠ b) (e : Kp b H H') : L43 K H' a D q ns kvs xs ss := ⟨h.scr.kpB hb e, e _ _ n1 h.dic, e _ _ n2 h.lst, paired_mono (fun _ _ t => TmAt.tk t (Tk.kb hb e)) h.tms⟩
theorem ans_look {m : Nat} {rs : List Rw} {kvs : List (Key × V)} {M : Nat} (hg : Prg m rs) (hk : DicOk kvs (namesL m rs.length (asked m rs)) (2 ^ M)) (hM : M ≤ 9000) (ht : gOf kvs "c" * (gOf kvs "s" + 1) < 5000) : ∀ s ∈ sysOf m rs, LookOk kvs s := fun s hs => by
  obtain ⟨⟨a1, a2, a3⟩, ⟨b1, b2, b3⟩⟩ := sys_tm (B := 9000) hg (by decide) (by decide) (fun z hz => by
    obtain ⟨e1, e2⟩ := hk.at hz
    exact ⟨e1, tb_mono e2 hM⟩) ht s hs
  exact ⟨sys_word _ _ _ hs, a1, b1, a2, b2, by omega, by omega⟩
theorem ans_dlen {m c : Nat} {rs : List Rw} {bs ys : List Nat} {ss : List (Nat × List Nat)} (hg : Prg m rs) : (mergeK [] (ansD m rs bs ys ss c)).length ≤ 100 := by
  have h1 := merge_len (ansD m rs bs ys ss c) []
  have h2 := hg.b5
  have h3 := hg.len
  have h4 := asked_le m rs
  have e : (ansD m rs bs ys ss c).length = m + m + 8 + m + rs.length + (asked m rs).length := by
    unfold ansD anX anY an8 anR anL anE
    simp only [List.length_append, List.length_map, List.length_range, List.length_cons, List.length_nil]
  have h1 : (mergeK [] (ansD m rs bs ys ss c)).length ≤ 0 + (ansD m rs bs ys ss c).length := h1
  omega
theorem pos_has {kvs : List (Key × V)} {ys : List Str} {M : Nat} (h : DicOk kvs ys M) {z : Str} (hz : z ∈ ys) : 1 ≤ kvs.length := by
  obtain ⟨p, hp, _⟩ := h.has z hz
  exact List.length_pos_of_mem hp
theorem paired_flat {α β : Type} {R : α → β → Prop} {x : List α} {y : List β} (h : Paired R x y) : ∀ n : Nat, Paired R (List.replicate n x).flatten (List.replicate n y).flatten
  | 0 => .nil
  | n + 1 => by
    rw [List.replicate_succ, List.replicate_succ, List.flatten_cons, List.flatten_cons]
    exact paired_app h (paired_flat h n)
theorem paired_take {α β : Type} {R : α → β → Prop} : ∀ {l : List α} {m : List β} (n : Nat), Paired R l m → Paired R (l.take n) (m.take n)
  | _, _, 0, _ => .nil
  | _, _, _ + 1, .nil => .nil
  | _, _, n + 1, .cons a t => .cons a (paired_take n t)
theorem flat_len {α : Type} {x : List α} (h : x.length ≤ 1) : ∀ n : Nat, (List.replicate n x).flatten.length ≤ n
  | 0 => Nat.le_refl _
  | n + 1 => by
    rw [List.replicate_succ, List.flatten_cons, List.length_append]
    have := flat_len h n
    omega
theorem flat_mem {α : Type} {x : List α} {z : α} {n : Nat} (h : z ∈ (List.replicate n x).flatten) : z ∈ x := by
  obtain ⟨l, hl, hz⟩ := List.mem_flatten.mp h
  rw [(List.mem_replicate.mp hl).2] at hz
  exact hz
def sp_f_law_box (K : PySem.W.Frag) : Sp := fun vs H Q E => ∃ (a : Addr) (ns : List Int) (i : Int), vs = [.ref a, .int i] ∧ SqL K H a (ns.map V.int) ∧ 0 ≤ i ∧ i ≤ 100000 ∧ ∀ b H', H b = none → Sm H H' → BoxAt H' b → Q (.ref b) H'
theorem call_box {K : PySem.W.Frag} {H : Hp} {Q : VK} {E : XK} {a : Addr} {ns : List Int} {i : Int} (hS : SqL K H a (ns.map V.int)) (h0 : 0 ≤ i) (h1 : i ≤ 100000) (k : ∀ b H', H b = none → Sm H H' → BoxAt H' b → Q (.ref b) H') : sp_f_law_box K [.ref a, .int i] H Q E := ⟨a, ns, i, rfl, hS, h0, h1, k⟩
local macro_rules | `(tactic| tm_at "rs") => `(tactic| ((with_reducible refine' call_box ?h ?i ?j (fun _ _ _ _ _ => ?k)); (case h => tm_at "rsq"); (case i => omega); (case j => omega)))
def sp_f_law_take (K : PySem.W.Frag) : Sp := fun vs H Q E => ∃ (b : Addr) (w : Int), vs = [.ref b, .int w] ∧ BoxAt H b ∧ Wd w ∧ ∀ d H', 0 ≤ d → d < w → Kp b H H' → BoxAt H' b → Q (.int d) H'
theorem call_take {K : PySem.W.Frag} {H : Hp} {Q : VK} {E : XK} {b : Addr} {w : Int} (hb : BoxAt H b) (hw : Wd w) (k : ∀ d H', 0 ≤ d → d < w → Kp b H H' → BoxAt H' b → Q (.int d) H') : sp_f_law_take K [.ref b, .int w] H Q E := ⟨b, w, rfl, hb, hw, k⟩
local macro_rules | `(tactic| tm_at "rwd") => `(tactic| first | assumption | (apply wd_of <;> omega) | exact ⟨by decide, by decide +kernel⟩ | ((refine' wd_two ?wa ?wb); (case wa => with_reducible assumption); (case wb => omega)) | solve_by_elim | fail "no")
local macro_rules | `(tactic| tm_at "rs") => `(tactic| ((with_reducible refine call_take ?h ?w (fun _ _ _ _ _ _ => ?_)); (case h => tm_at "rbx"); (case w => tm_at "rwd")))
def sp_f_law_piece (K : PySem.W.Frag) : Sp := fun vs H Q E => ∃ (b : Addr) (m t : Nat), vs = [.ref b, .int (m : Int), .int (t : Int)] ∧ BoxAt H b ∧ 1 ≤ m ∧ m ≤ 5 ∧ t ≤ 100 ∧ ∀ (p : Addr) (vs : List V) (rs : List Rw) (H' : Hp), H p = none → H' p = some (.lst vs) → RwsAt H' vs rs → 1 ≤ rs.length → rs.length ≤ 6 → RwsOk m (t + rs.length + 1) rs → Kp b H H' → BoxAt H' b → Q (.ref p) H'
theorem call_piece {K : PySem.W.Frag} {H : Hp} {Q : VK} {E : XK} {b : Addr} {m t : Nat} (hB : BoxAt H b) (m1 : 1 ≤ m) (m5 : m ≤ 5) (t1 : t ≤ 100) (k : ∀ (p : Addr) (vs : List V) (rs : List Rw) (H' : Hp), H p = none → H' p = some (.lst vs) → RwsAt H' vs rs → 1 ≤ rs.length → rs.length ≤ 6 → RwsOk m (t + rs.length + 1) rs → Kp b H H' → BoxAt H' b → Q (.ref p) H') : sp_f_law_piece K [.ref b, .int (m : Int), .int (t : Int)] H Q E := ⟨b, m, t, rfl, hB, m1, m5, t1, k⟩
def sp_f_law_ending_rows (K : PySem.W.Frag) : Sp := fun vs H Q E => ∃ (b : Addr) (m : Nat), vs = [.ref b, .int (m : Int)] ∧ BoxAt H b ∧ 1 ≤ m ∧ m ≤ 5 ∧ ∀ (p : Addr) (vs : List V) (rs : List Rw) (H' : Hp), H p = none → H' p = some (.lst vs) → RwsAt H' vs rs → Prg m rs → Kp b H H' → BoxAt H' b → Q (.ref p) H'
theorem call_endingRows {K : PySem.W.Frag} {H : Hp} {Q : VK} {E : XK} {b : Addr} {m : Nat} (hB : BoxAt H b) (m1 : 1 ≤ m) (m5 : m ≤ 5) (k : ∀ (p : Addr) (vs : List V) (rs : List Rw) (H' : Hp), H p = none → H' p = some (.lst vs) → RwsAt H' vs rs → Prg m rs → Kp b H H' → BoxAt H' b → Q (.ref p) H') : sp_f_law_ending_rows K [.ref b, .int (m : Int)] H Q E := ⟨b, m, rfl, hB, m1, m5, k⟩
def sp_f_law_row (K : PySem.W.Frag) : Sp := fun vs H Q E => ∃ (b : Addr) (m n : Nat), vs = [.ref b, .int (m : Int), .int (n : Int)] ∧ BoxAt H b ∧ 1 ≤ m ∧ m ≤ 5 ∧ 1 ≤ n ∧ n ≤ 14 ∧ ∀ (p : Addr) (r : Rw) (H' : Hp), H p = none → H' p = some (.tup r.vs) → r.ok m n → Kp b H H' → BoxAt H' b → Q (.ref p) H'
theorem call_row {K : PySem.W.Frag} {H : Hp} {Q : VK} {E : XK} {b : Addr} {m n : Nat} (hB : BoxAt H b) (m1 : 1 ≤ m) (m5 : m ≤ 5) (n1 : 1 ≤ n) (n14 : n ≤ 14) (k : ∀ (p : Addr) (r : Rw) (H' : Hp), H p = none → H' p = some (.tup r.vs) → r.ok m n → Kp b H H' → BoxAt H' b → Q (.ref p) H') : sp_f_law_row K [.ref b, .int (m : Int), .int (n : Int)] H Q E := ⟨b, m, n, rfl, hB, m1, m5, n1, n14, k⟩
def sp_f_law_any_rows (K : PySem.W.Frag) : Sp := fun vs H Q E => ∃ (b : Addr) (m : Nat), vs = [.ref b, .int (m : Int)] ∧ BoxAt H b ∧ 1 ≤ m ∧ m ≤ 5 ∧ ∀ (p : Addr) (vs : List V) (rs : List Rw) (H' : Hp), H p = none → H' p = some (.lst vs) → RwsAt H' vs rs → Prg m rs → Kp b H H' → BoxAt H' b → Q (.ref p) H'
theorem call_anyRows {K : PySem.W.Frag} {H : Hp} {Q : VK} {E : XK} {b : Addr} {m : Nat} (hB : BoxAt H b) (m1 : 1 ≤ m) (m5 : m ≤ 5) (k : ∀ (p : Addr) (vs : List V) (rs : List Rw) (H' : Hp), H p = none → H' p = some (.lst vs) → RwsAt H' vs rs → Prg m rs → Kp b H H' → BoxAt H' b → Q (.ref p) H') : sp_f_law_any_rows K [.ref b, .int (m : Int)] H Q E := ⟨b, m, rfl, hB, m1, m5, k⟩
def sp_f_law_some_program (K : PySem.W.Frag) : Sp := fun vs H Q E => ∃ (b : Addr), vs = [.ref b] ∧ BoxAt H b ∧ ∀ (q p : Addr) (m : Nat) (vs : List V) (rs : List Rw) (H' : Hp), H p = none → H' q = some (.tup [.int (m : Nat), .ref p]) → H' p = some (.lst vs) → RwsAt H' vs rs → Prg m rs → Kp b H H' → BoxAt H' b → Q (.ref q) H'
theorem call_someProgram {K : PySem.W.Frag} {H : Hp} {Q : VK} {E : XK} {b : Addr} (hB : BoxAt H b) (k : ∀ (q p : Addr) (m : Nat) (vs : List V) (rs : List Rw) (H' : Hp), H p = none → H' q = some (.tup [.int (m : Nat), .ref p]) → H' p = some (.lst vs) → RwsAt H' vs rs → Prg m rs → Kp b H H' → BoxAt H' b → Q (.ref q) H') : sp_f_law_some_program K [.ref b] H Q E := ⟨b, rfl, hB, k⟩
local macro_rules | `(tactic| tm_at "rs") => `(tactic| ((with_reducible refine call_someProgram ?h (fun _ _ _ _ _ _ _ _ _ _ _ _ _ => ?_)); (case h => tm_at "rbx")))
def sp_f_law_begin (K : PySem.W.Frag) : Sp := fun vs H Q E => ∃ (b : Addr) (m : Nat), vs = [.ref b, .int (m : Nat)] ∧ BoxAt H b ∧ 1 ≤ m ∧ m ≤ 5 ∧ ∀ (p : Addr) (cs : List Nat) (H' : Hp), H p = none → H' p = some (.lst (nV cs)) → cs.length = m → (∀ c ∈ cs, c ≤ 500) → Kp b H H' → BoxAt H' b → Q (.ref p) H'
theorem call_begin {K : PySem.W.Frag} {H : Hp} {Q : VK} {E : XK} {b : Addr} {m : Nat} (hB : BoxAt H b) (m1 : 1 ≤ m) (m5 : m ≤ 5) (k : ∀ (p : Addr) (cs : List Nat) (H' : Hp), H p = none → H' p = some (.lst (nV cs)) → cs.length = m → (∀ c ∈ cs, c ≤ 500) → Kp b H H' → BoxAt H' b → Q (.ref p) H') : sp_f_law_begin K [.ref b, .int (m : Nat)] H Q E := ⟨b, m, rfl, hB, m1, m5, k⟩
def sp_f_law_after (K : PySem.W.Frag) : Sp := fun vs H Q E => ∃ (a : Addr) (z : V) (m k : Nat) (cs : List Nat) (us : List V) (rs : List Rw), vs = [.ref a, z] ∧ (SqL K H a us ∨ SqT K H a us) ∧ RwsAt H us rs ∧ StdAt H z k cs ∧ Prg m rs ∧ k < rs.length ∧ cs.length = m ∧ ∀ u H', Sm H H' → OStd H' u (aftr rs k cs) → Q u H'
theorem call_after {K : PySem.W.Frag} {H : Hp} {Q : VK} {E : XK} {a : Addr} {z : V} {m k : Nat} {cs : List Nat} {us : List V} {rs : List Rw} (ha : SqL K H a us ∨ SqT K H a us) (hr : RwsAt H us rs) (hz : StdAt H z k cs) (hg : Prg m rs) (hk : k < rs.length) (hc : cs.length = m) (kk : ∀ u H', Sm H H' → OStd H' u (aftr rs k cs) → Q u H') : sp_f_law_after K [.ref a, z] H Q E := ⟨a, z, m, k, cs, us, rs, rfl, ha, hr, hz, hg, hk, hc, kk⟩
theorem call_afterN {K : PySem.W.Frag} {H : Hp} {Q : VK} {E : XK} {a : Addr} {z : V} {m k : Nat} {cs : List Nat} {vs : List V} {rs : List Rw} (ha : SqL K H a vs ∨ SqT K H a vs) (hr : RwsAt H vs rs) (hz : StdAt H z k cs) (hg : Prg m rs) (hk : k < rs.length) (hc : cs.length = m) (hA : aftr rs k cs = none) (kk : ∀ H', Sm H H' → Q .non H') : sp_f_law_after K [.ref a, z] H Q E := call_after ha hr hz hg hk hc fun u H' s o => by
  rw [hA] at o
  have o : u = .non := o
  subst o
  exact kk H' s
theorem call_afterS {K : PySem.W.Frag} {H : Hp} {Q : VK} {E : XK} {a : Addr} {z : V} {m k : Nat} {cs : List Nat} {vs : List V} {rs : List Rw} (ha : SqL K H a vs ∨ SqT K H a vs) (hr : RwsAt H vs rs) (hz : StdAt H z k cs) (hg : Prg m rs) (hk : k < rs.length) (hc : cs.length = m) {s : Nat × List Nat} (hA : aftr rs k cs = some s) (kk : ∀ p H', Sm H H' → StdAt H' (.ref p) s.1 s.2 → Q (.ref p) H') : sp_f_law_after K [.ref a, z] H Q E := call_after ha hr hz hg hk hc fun u H' s o => by
  rw [hA] at o
  obtain ⟨p, t, rfl, h1, h2⟩ := id o
  exact kk p H' s ⟨p, t, rfl, h1, h2⟩
local macro_rules | `(tactic| tm_at "rs") => `(tactic| first | ((with_reducible refine' call_after ?a ?f ?b ?c ?d ?e (fun _ _ _ _ => ?k)); (case a => exact .inl (by tm_at "rsq")); (case f => tm_at "rrw"); (case b => tm_at "rstd"); (case c => assumption); (case d => assumption); (case e => assumption)) | fail "no")
local macro_rules | `(tactic| tm_at "rs") => `(tactic| first | ((with_reducible refine' call_afterS ?a ?f ?b ?c ?d ?e ?g (fun _ _ _ _ => ?k)); (case a => exact .inl (by tm_at "rsq")); (case f => tm_at "rrw"); (case b => tm_at "rstd"); (case c => assumption); (case d => assumption); (case e => assumption); (case g => assumption)) | fail "no")
local macro_rules | `(tactic| tm_at "rs") => `(tactic| first | ((with_reducible refine' call_afterN ?a ?f ?b ?c ?d ?e ?g (fun _ _ => ?k)); (case a => exact .inl (by tm_at "rsq")); (case f => tm_at "rrw"); (case b => tm_at "rstd"); (case c => assumption); (case d => assumption); (case e => assumption); (case g => assumption)) | fail "no")
def sp_f_law_run (K : PySem.W.Frag) : Sp := fun vs H Q E => ∃ (a bp : Addr) (m M : Nat) (us : List V) (bs : List Nat) (rs : List Rw), vs = [.ref a, .ref bp, .int (M : Nat)] ∧ H a = some (.lst us) ∧ RwsAt H us rs ∧ (H bp = some (.lst (nV bs)) ∨ H bp = some (.tup (nV bs))) ∧ Prg m rs ∧ bs.length = m ∧ M ≤ 1000 ∧ ∀ t L xs pre last H', H L = none → Sm H H' → H' t = some (.tup [.str (wordR rs last), .ref L]) → H' L = some (.lst xs) → SdL H' xs (pre ++ [last]) → runL rs M (0, bs) = pre ++ [last] → Q (.ref t) H'
theorem call_run {K : PySem.W.Frag} {H : Hp} {Q : VK} {E : XK} {a bp : Addr} {m M : Nat} {us : List V} {bs : List Nat} {rs : List Rw} (ha : H a = some (.lst us)) (hr : RwsAt H us rs) (hb : H bp = some (.lst (nV bs)) ∨ H bp = some (.tup (nV bs))) (hg : Prg m rs) (hl : bs.length = m) (hM : M ≤ 1000) (k : ∀ t L xs pre last H', H L = none → Sm H H' → H' t = some (.tup [.str (wordR rs last), .ref L]) → H' L = some (.lst xs) → SdL H' xs (pre ++ [last]) → runL rs M (0, bs) = pre ++ [last] → Q (.ref t) H') : sp_f_law_run K [.ref a, .ref bp, .int (M : Nat)] H Q E := ⟨a, bp, m, M, us, bs, rs, rfl, ha, hr, hb, hg, hl, hM, k⟩
def sp_f_law_stopping (K : PySem.W.Frag) : Sp := fun vs H Q E => ∃ (b : Addr) (M : Nat), vs = [.ref b, .int (M : Nat)] ∧ BoxAt H b ∧ M ≤ 200 ∧ ∀ (t p bp q : Addr) (m : Nat) (rs : List Rw) (bs : List Nat) (ss : List (Nat × List Nat)) (H' : Hp), H p = none → H bp = none → H q = none → p ≠ bp → bp ≠ q → p ≠ q → H' t = some (.tup [.int (m : Nat), .ref p, .ref bp, .ref q]) → Stp4 H' p bp q m rs bs ss → StpOk m rs bs ss M → Kp b H H' → BoxAt H' b → Q (.ref t) H'
theorem call_stopping {K : PySem.W.Frag} {H : Hp} {Q : VK} {E : XK} {b : Addr} {M : Nat} (hB : BoxAt H b) (hM : M ≤ 200) (k : ∀ (t p bp q : Addr) (m : Nat) (rs : List Rw) (bs : List Nat) (ss : List (Nat × List Nat)) (H' : Hp), H p = none → H bp = none → H q = none → p ≠ bp → bp ≠ q → p ≠ q → H' t = some (.tup [.int (m : Nat), .ref p, .ref bp, .ref q]) → Stp4 H' p bp q m rs bs ss → StpOk m rs bs ss M → Kp b H H' → BoxAt H' b → Q (.ref t) H') : sp_f_law_stopping K [.ref b, .int (M : Nat)] H Q E := ⟨b, M, rfl, hB, hM, k⟩
def sp_f_law_asked (K : PySem.W.Frag) : Sp := fun vs H Q E => ∃ (m : Nat) (p : Addr) (us : List V) (rs : List Rw), vs = [.int (m : Nat), .ref p] ∧ H p = some (.lst us) ∧ RwsAt H us rs ∧ m ≤ 5 ∧ rs.length ≤ 14 ∧ ∀ q H', H q = none → Sm H H' → H' q = some (.lst (nV (asked m rs))) → Q (.ref q) H'
theorem call_lawAsked {K : PySem.W.Frag} {H : Hp} {Q : VK} {E : XK} {m : Nat} {p : Addr} {us : List V} {rs : List Rw} (hp : H p = some (.lst us)) (hR : RwsAt H us rs) (hm : m ≤ 5) (hl : rs.length ≤ 14) (k : ∀ q H', H q = none → Sm H H' → H' q = some (.lst (nV (asked m rs))) → Q (.ref q) H') : sp_f_law_asked K [.int (m : Nat), .ref p] H Q E := ⟨m, p, us, rs, rfl, hp, hR, hm, hl, k⟩
def brJ (r : Rw) (j : Nat) : Bool := match r with
  | .br i _ => decide (i = j)
  | _ => false
theorem ask_eqv (r : Rw) (j : Nat) : PyData.eqv (.tuple (r.ds.take 2)) (.tuple [.str "if", .int (j : Int)]) = brJ r j := by
  have n1 := str_beq (show Str.ofString "raise" ≠ Str.ofString "if" by decide +kernel)
  have n2 := str_beq (show Str.ofString "lower" ≠ Str.ofString "if" by decide +kernel)
  have n3 := str_beq (show Str.ofString "go" ≠ Str.ofString "if" by decide +kernel)
  have n4 := str_beq (show Str.ofString "stop" ≠ Str.ofString "if" by decide +kernel)
  have ib : ∀ a b : Nat, ((a : Int) == (b : Int)) = decide (a = b) := fun a b => by
    by_cases h : a = b
    · subst h; simp
    · rw [decide_eq_false h]
      simpa using fun e : (a : Int) = b => h (Int.ofNat_inj.mp e)
  cases r <;> simp [brJ, Rw.ds, PyData.eqv, PyData.eqvAll, n1, n2, n3, n4, ib]
theorem tk_tpl {H : Hp} : ∀ {ds : List PyData} {vs : List V} (n : Nat), TpL H ds vs → TpL H (ds.take n) (vs.take n)
  | [], vs, n, h => by
    unfold TpL at h
    subst h
    rw [List.take_nil, List.take_nil]
    exact tpl_nil
  | d :: ds, vs, 0, h => by
    rw [List.take_zero, List.take_zero]
    exact tpl_nil
  | d :: ds, vs, n + 1, h => by
    unfold TpL at h
    obtain ⟨v, us, rfl, q, r⟩ := h
    exact tpl_cons q (tk_tpl n r)
theorem w_eqAsk {K : PySem.W.Frag} {H : Hp} {Q : VK} {a b : Addr} {r : Rw} {j : Nat} (h1 : H a = some (.tup (cutV r.vs none (some 2)))) (h2 : H b = some (.tup [.str "if", .int (j : Int)])) (k : ∀ c, c = brJ r j → Q (.bl c) H) : gEq K (.ref a) (.ref b) H Q := by
  rw [cut_hi (by decide)] at h1
  obtain ⟨c1, c2⟩ := rw_cl r
  have sh : SeqAt.shaped (.tuple (r.ds.take 2)) = true := by
    have s1 : PyData.strOk (Str.ofString "raise") = true := by decide +kernel
    have s2 : PyData.strOk (Str.ofString "lower") = true := by decide +kernel
    have s3 : PyData.strOk (Str.ofString "if") = true := by decide +kernel
    have s4 : PyData.strOk (Str.ofString "go") = true := by decide +kernel
    have s5 : PyData.strOk (Str.ofString "stop") = true := by decide +kernel
    show ((PyData.tuple (r.ds.take 2)).canLay0 && decide ((PyData.tuple (r.ds.take 2)).depth ≤ 64)) = true
    cases r <;> simp [Rw.ds, PyData.canLay0, PyData.canLayAll0, PyData.depth, PyData.depthAll, s1, s2, s3, s4, s5]
  have sh2 : SeqAt.shaped (.tuple [.str "if", .int (j : Int)]) = true := by
    have s3 : PyData.strOk (Str.ofString "if") = true := by decide +kernel
    show ((PyData.tuple [.str "if", .int (j : Int)]).canLay0 && decide ((PyData.tuple [.str "if", .int (j : Int)]).depth ≤ 64)) = true
    simp [PyData.canLay0, PyData.canLayAll0, PyData.depth, PyData.depthAll, s3]
  refine .inr ⟨.tuple (r.ds.take 2), .tuple [.str "if", .int (j : Int)], .tup (st_of h1) (TpL.dp _ _ (tk_tpl 2 r.tpl)), .tup (st_of h2) (.cons (.str _) (.cons (.int _) .nil)), sh, sh2, ?_⟩
  exact k _ (ask_eqv r j)
theorem ask_ne {rs : List Rw} {j n : Nat} : (List.range n).filter (fun k => isAsk rs j k) ≠ [] ↔ askB rs j n = true := by
  unfold askB
  rw [List.any_eq_true]
  constructor
  · intro h
    obtain ⟨k, hk⟩ := List.exists_mem_of_ne_nil _ h
    obtain ⟨a, b⟩ := List.mem_filter.mp hk
    exact ⟨k, a, b⟩
  · rintro ⟨k, a, b⟩ h
    have : k ∈ (List.range n).filter (fun k => isAsk rs j k) := List.mem_filter.mpr ⟨a, b⟩
    rw [h] at this
    cases this
theorem flt_succ {p : Nat → Bool} {n : Nat} : (List.range (n + 1)).filter p = (List.range n).filter p ++ (if p n = true then [n] else []) := by
  rw [List.range_succ, List.filter_append]
  by_cases h : p n = true
  · rw [if_pos h, List.filter_cons_of_pos h, List.filter_nil]
  · rw [if_neg h, List.filter_cons_of_neg h, List.filter_nil]
def sp_f_law_answer (K : PySem.W.Frag) : Sp := fun vs H Q E => ∃ (m c : Nat) (p b q : Addr) (us xs : List V) (rs : List Rw) (bs ys : List Nat) (ss : List (Nat × List Nat)) (k0 : Nat) (pre : List (Nat × List Nat)), vs = [.int (m : Nat), .ref p, .ref b, .ref q, .int (c : Nat)] ∧ H p = some (.lst us) ∧ RwsAt H us rs ∧ Prg m rs ∧ H b = some (.lst (nV bs)) ∧ bs.length = m ∧ H q = some (.lst xs) ∧ SdL H xs ss ∧ ss = pre ++ [(k0, ys)] ∧ (∀ s ∈ ss, s.2.length = m) ∧ ss.length ≤ 402 ∧ 1 ≤ c ∧ c ≤ 1000 ∧ (∀ s ∈ ss, ∀ x ∈ s.2, x ≤ 2 ^ 100) ∧ ∀ d H', H d = none → Sm H H' → H' d = some (.dK (mergeK [] (ansD m rs bs ys ss c))) → Q (.ref d) H'
theorem call_lawAnswer {K : PySem.W.Frag} {H : Hp} {Q : VK} {E : XK} {m c : Nat} {p b q : Addr} {us xs : List V} {rs : List Rw} {bs ys : List Nat} {ss : List (Nat × List Nat)} {k0 : Nat} {pre : List (Nat × List Nat)} (hp : H p = some (.lst us)) (hR : RwsAt H us rs) (hg : Prg m rs) (hb : H b = some (.lst (nV bs))) (hbl : bs.length = m) (hq : H q = some (.lst xs)) (hX : SdL H xs ss) (hss : ss = pre ++ [(k0, ys)]) (hsl : ∀ s ∈ ss, s.2.length = m) (hsn : ss.length ≤ 402) (c1 : 1 ≤ c) (c2 : c ≤ 1000) (hbd : ∀ s ∈ ss, ∀ x ∈ s.2, x ≤ 2 ^ 100) (k : ∀ d H', H d = none → Sm H H' → H' d = some (.dK (mergeK [] (ansD m rs bs ys ss c))) → Q (.ref d) H') : sp_f_law_answer K [.int (m : Nat), .ref p, .ref b, .ref q, .int (c : Nat)] H Q E := ⟨m, c, p, b, q, us, xs, rs, bs, ys, ss, k0, pre, rfl, hp, hR, hg, hb, hbl, hq, hX, hss, hsl, hsn, c1, c2, hbd, k⟩
def sp_f_law_named (K : PySem.W.Frag) : Sp := fun vs H Q E => ∃ (c : Str) (p : Addr) (l : List Nat), vs = [.str c, .ref p] ∧ H p = some (.lst (nV l)) ∧ l.length ≤ 100 ∧ (∀ n ∈ l, n < 1000) ∧ c.length ≤ 10 ∧ ∀ q xs H', H q = none → Sm H H' → H' q = some (.lst xs) → TmsAt K H' xs (l.map fun j => .name (nmS c j)) → Q (.ref q) H'
theorem call_lawNamed {K : PySem.W.Frag} {H : Hp} {Q : VK} {E : XK} {c : Str} {p : Addr} {l : List Nat} (hp : H p = some (.lst (nV l))) (hl : l.length ≤ 100) (hn : ∀ n ∈ l, n < 1000) (hc : c.length ≤ 10) (k : ∀ q xs H', H q = none → Sm H H' → H' q = some (.lst xs) → TmsAt K H' xs (l.map fun j => .name (nmS c j)) → Q (.ref q) H') : sp_f_law_named K [.str c, .ref p] H Q E := ⟨c, p, l, rfl, hp, hl, hn, hc, k⟩
theorem call_lawNamedR {K : PySem.W.Frag} {H : Hp} {Q : VK} {E : XK} {c : Str} {p : Addr} {m : Nat} (hp : H p = some (.lst (nV (List.range m)))) (hm : m ≤ 100) (hc : c.length ≤ 10) (k : ∀ q xs H', H q = none → Sm H H' → H' q = some (.lst xs) → TmsAt K H' xs ((List.range m).map fun j => .name (nmS c j)) → xs.length = m → Q (.ref q) H') : sp_f_law_named K [.str c, .ref p] H Q E :=
  call_lawNamed hp (by rw [List.length_range]; exact hm) (fun n hn => by have := List.mem_range.mp hn; omega) hc fun q xs H' a b c d => k q xs H' a b c d (by rw [TmsAt.len d, List.length_map, List.length_range])
local macro_rules | `(tactic| tm_at "rs") => `(tactic| ((with_reducible refine' call_lawNamedR ?h ?i ?j (fun _ _ _ _ _ _ _ _ => ?k)); (case h => tm_at "rlk"); (case i => omega); (case j => decide)))
def sp_f_law_row_sayings (K : PySem.W.Frag) : Sp := fun vs H Q E => ∃ (p dp : Addr) (j : Nat) (us ds : List V) (rs : List Rw) (r : Rw) (l : V), vs = [.ref p, .int (j : Nat), .ref dp, l] ∧ H p = some (.lst us) ∧ RwsAt H us rs ∧ rs[j]? = some r ∧ H dp = some (.lst ds) ∧ TmsAt K H ds (lsT (List.range rs.length)) ∧ TmAt K H (.op "times" (.name "q") (.name (nmS "l" j))) l ∧ (r ≠ .st → (∀ g, r ≠ .go g) → j + 1 < rs.length) ∧ (∀ g, r = .go g → g < rs.length) ∧ (∀ i g, r = .br i g → g < rs.length ∧ i < 5) ∧ rs.length ≤ 14 ∧ ∀ q xs H', H q = none → Sm H H' → H' q = some (.lst xs) → TmsAt K H' xs ((rowS rs j).map opS) → Q (.ref q) H'
theorem call_lawRowS {K : PySem.W.Frag} {H : Hp} {Q : VK} {E : XK} {p dp : Addr} {j : Nat} {us ds : List V} {rs : List Rw} {r : Rw} {l : V} (hp : H p = some (.lst us)) (hR : RwsAt H us rs) (hj : rs[j]? = some r) (hd : H dp = some (.lst ds)) (hD : TmsAt K H ds (lsT (List.range rs.length))) (hl : TmAt K H (.op "times" (.name "q") (.name (nmS "l" j))) l) (hn : r ≠ .st → (∀ g, r ≠ .go g) → j + 1 < rs.length) (hgo : ∀ g, r = .go g → g < rs.length) (hbr : ∀ i g, r = .br i g → g < rs.length ∧ i < 5) (h14 : rs.length ≤ 14) (k : ∀ q xs H', H q = none → Sm H H' → H' q = some (.lst xs) → TmsAt K H' xs ((rowS rs j).map opS) → Q (.ref q) H') : sp_f_law_row_sayings K [.ref p, .int (j : Nat), .ref dp, l] H Q E := ⟨p, dp, j, us, ds, rs, r, l, rfl, hp, hR, hj, hd, hD, hl, hn, hgo, hbr, h14, k⟩
def sp_f_law_sum (K : PySem.W.Frag) : Sp := fun vs H Q E => ∃ (p : Addr) (xs : List V) (ts : List Tm), vs = [.ref p] ∧ H p = some (.lst xs) ∧ TmsAt K H xs ts ∧ xs.length ≤ 1000 ∧ ∀ v H', Sm H H' → TmAt K H' (sumT ts) v → Q v H'
theorem call_lsum {K : PySem.W.Frag} {H : Hp} {Q : VK} {E : XK} {p : Addr} {xs : List V} {ts : List Tm} (hp : H p = some (.lst xs)) (hx : TmsAt K H xs ts) (hl : xs.length ≤ 1000) (k : ∀ v H', Sm H H' → TmAt K H' (sumT ts) v → Q v H') : sp_f_law_sum K [.ref p] H Q E := ⟨p, xs, ts, rfl, hp, hx, hl, k⟩
local macro_rules | `(tactic| tm_at "rs") => `(tactic| ((with_reducible refine' call_lsum ?h ?i ?j (fun _ _ _ _ => ?k)); (case h => tm_at "rlk"); (case i => tm_at "rms"); (case j => omega)))
def sp_f_law_sayings (K : PySem.W.Frag) : Sp := fun vs H Q E => ∃ (m : Nat) (p : Addr) (us : List V) (rs : List Rw), vs = [.int (m : Nat), .ref p] ∧ H p = some (.lst us) ∧ RwsAt H us rs ∧ Prg m rs ∧ ∀ q xs H', H q = none → Sm H H' → H' q = some (.lst xs) → TmsAt K H' xs ((sysOf m rs).map opS) → Q (.ref q) H'
theorem call_lawSys {K : PySem.W.Frag} {H : Hp} {Q : VK} {E : XK} {m : Nat} {p : Addr} {us : List V} {rs : List Rw} (hp : H p = some (.lst us)) (hR : RwsAt H us rs) (hg : Prg m rs) (k : ∀ q xs H', H q = none → Sm H H' → H' q = some (.lst xs) → TmsAt K H' xs ((sysOf m rs).map opS) → Q (.ref q) H') : sp_f_law_sayings K [.int (m : Nat), .ref p] H Q E := ⟨m, p, us, rs, rfl, hp, hR, hg, k⟩
local macro_rules | `(tactic| tm_at "rq") => `(tactic| first | tm_at "rs" | ((with_reducible refine' w_ixM ?h ?i ?j (fun _ _ => ?k)); (case h => tm_at "rlk"); (case i => tm_at "rms"); (case j => first | exact lsg (by omega) | exact nmg (by omega))) | fail "no")
def sp_f_Saying__init (K : PySem.W.Frag) : Sp := fun vs H Q E => ∃ (p C dx : Addr) (w : Str) (l r : V), vs = [.ref p, .str w, l, r] ∧ H p = some (.ins C dx []) ∧ SayC K C ∧ (w = "same" ∨ w = "under") ∧ ∀ H', Kp p H H' → H' p = some (.ins C dx [("word", .str w), ("left", l), ("right", r)]) → Q .non H'
theorem mk_say {K : PySem.W.Frag} {H : Hp} {Q : VK} {E : XK} {C : Addr} {w : Str} {l r : V} (hC : SayC K C) (hw : w = "same" ∨ w = "under") (k : ∀ p H', H p = none → Sm H H' → SayAt K H' (.ref p) w l r → Q (.ref p) H') : MkE C (sp_f_Saying__init K) Q E [.str w, l, r] H := fun x dx hx hd ne => ⟨x, C, dx, w, l, r, rfl, upd_same, hC, hw, fun H' kp g => ⟨rfl, k x H' hx (fun a o h => kp a o (ne_of_none h hx) (by rw [upd_ne (ne_of_none h hx), upd_ne (ne_of_none h hd)]; exact h)) ⟨x, C, dx, rfl, hC, g⟩⟩⟩
def sp_f_let_by (K : PySem.W.Frag) : Sp := fun vs H Q E => ∃ (x : Int) (m : Nat), vs = [.int x] ∧ x.natAbs < 2 ^ m ∧ m ≤ 1000000 ∧ Q (.int x) H
theorem call_let_by {K : PySem.W.Frag} {H : Hp} {Q : VK} {E : XK} {x : Int} {m : Nat} (hx : x.natAbs < 2 ^ m) (hm : m ≤ 1000000) (k : Q (.int x) H) : sp_f_let_by K [.int x] H Q E := ⟨x, m, rfl, hx, hm, k⟩
def sp_f_power_of (K : PySem.W.Frag) : Sp := fun vs H Q E => ∃ (b e m : Nat), vs = [.int (b : Int), .int (e : Int)] ∧ b < 2 ^ m ∧ 1 ≤ m ∧ PwOk b e m ∧ Q (.int ((b ^ e : Nat) : Int)) H
theorem call_power_of {K : PySem.W.Frag} {H : Hp} {Q : VK} {E : XK} {b e m : Nat} (hb : b < 2 ^ m) (m1 : 1 ≤ m) (hm : PwOk b e m) (k : Q (.int ((b ^ e : Nat) : Int)) H) : sp_f_power_of K [.int (b : Int), .int (e : Int)] H Q E := ⟨b, e, m, rfl, hb, m1, hm, k⟩
def sp_f_product (K : PySem.W.Frag) : Sp := fun vs H Q E => ∃ (x y n m : Nat), vs = [.int (x : Int), .int (y : Int)] ∧ x < 2 ^ n ∧ y < 2 ^ m ∧ n + m ≤ 1000000 ∧ Q (.int ((x * y : Nat) : Int)) H
theorem call_product {K : PySem.W.Frag} {H : Hp} {Q : VK} {E : XK} {x y n m : Nat} (hx : x < 2 ^ n) (hy : y < 2 ^ m) (hm : n + m ≤ 1000000) (k : Q (.int ((x * y : Nat) : Int)) H) : sp_f_product K [.int (x : Int), .int (y : Int)] H Q E := ⟨x, y, n, m, rfl, hx, hy, hm, k⟩
def sp_f_come_to (K : PySem.W.Frag) : Sp := fun vs H Q E => ∃ (w : Str) (x y : Nat), vs = [.str w, .int (x : Int), .int (y : Int)] ∧ CmOk w x y ∧ Q (.int ((cm w x y : Nat) : Int)) H
theorem call_come_to {K : PySem.W.Frag} {H : Hp} {Q : VK} {E : XK} {w : Str} {x y : Nat} (hc : CmOk w x y) (k : Q (.int ((cm w x y : Nat) : Int)) H) : sp_f_come_to K [.str w, .int (x : Int), .int (y : Int)] H Q E := ⟨w, x, y, rfl, hc, k⟩
def sp_f_number_of (K : PySem.W.Frag) : Sp := fun vs H Q E => ∃ (s : Str) (d : Addr) (kvs : List (Key × V)) (x : Int), vs = [.str s, .ref d] ∧ H d = some (.dK kvs) ∧ valV kvs (.inr s) = some (.int x) ∧ Q (.int x) H
theorem call_number_of {K : PySem.W.Frag} {H : Hp} {Q : VK} {E : XK} {s : Str} {d : Addr} {kvs : List (Key × V)} {x : Int} (hd : H d = some (.dK kvs)) (hv : valV kvs (.inr s) = some (.int x)) (k : Q (.int x) H) : sp_f_number_of K [.str s, .ref d] H Q E := ⟨s, d, kvs, x, rfl, hd, hv, k⟩
def sp_f_worth (K : PySem.W.Frag) : Sp := fun vs H Q E => ∃ (v : V) (d : Addr) (t : Tm) (kvs : List (Key × V)) (g : Str → Nat), vs = [v, .ref d] ∧ TmAt K H t v ∧ H d = some (.dK kvs) ∧ TmOk kvs g t ∧ t.wt ≤ 10000 ∧ ∀ H', Sm H H' → Q (.int ((ev g t : Nat) : Int)) H'
theorem call_worth {K : PySem.W.Frag} {H : Hp} {Q : VK} {E : XK} {v : V} {d : Addr} {t : Tm} {kvs : List (Key × V)} {g : Str → Nat} (hv : TmAt K H t v) (hd : H d = some (.dK kvs)) (ht : TmOk kvs g t) (hw : t.wt ≤ 10000) (k : ∀ H', Sm H H' → Q (.int ((ev g t : Nat) : Int)) H') : sp_f_worth K [v, .ref d] H Q E := ⟨v, d, t, kvs, g, rfl, hv, hd, ht, hw, k⟩
def sp_f_fits (K : PySem.W.Frag) : Sp := fun vs H Q E => ∃ (x y : Int), vs = [.int x, .int y] ∧ Q (.bl (decide (Builtin.bitAnd x y = x))) H
theorem call_fits {K : PySem.W.Frag} {H : Hp} {Q : VK} {E : XK} {x y : Int} (k : Q (.bl (decide (Builtin.bitAnd x y = x))) H) : sp_f_fits K [.int x, .int y] H Q E := ⟨x, y, rfl, k⟩
local macro_rules | `(tactic| tm_at "rs") => `(tactic| with_reducible refine call_fits ?_)
def sp_f_holds (K : PySem.W.Frag) : Sp := fun vs H Q E => ∃ (v : V) (d : Addr) (w : Str) (l r : V) (a b : Tm) (kvs : List (Key × V)) (g : Str → Nat), vs = [v, .ref d] ∧ SayAt K H v w l r ∧ TmAt K H a l ∧ TmAt K H b r ∧ H d = some (.dK kvs) ∧ TmOk kvs g a ∧ TmOk kvs g b ∧ a.wt ≤ 10000 ∧ b.wt ≤ 10000 ∧ ∀ H', Sm H H' → Q (.bl (if w = "under" then decide (ev g a &&& ev g b = ev g a) else decide (ev g a = ev g b))) H'
theorem call_holds {K : PySem.W.Frag} {H : Hp} {Q : VK} {E : XK} {v : V} {d : Addr} {w : Str} {l r : V} {a b : Tm} {kvs : List (Key × V)} {g : Str → Nat} (hs : SayAt K H v w l r) (ha : TmAt K H a l) (hb : TmAt K H b r) (hd : H d = some (.dK kvs)) (oa : TmOk kvs g a) (ob : TmOk kvs g b) (wa : a.wt ≤ 10000) (wb : b.wt ≤ 10000)
    (k : ∀ H', Sm H H' → Q (.bl (if w = "under" then decide (ev g a &&& ev g b = ev g a) else decide (ev g a = ev g b))) H') : sp_f_holds K [v, .ref d] H Q E := ⟨v, d, w, l, r, a, b, kvs, g, rfl, hs, ha, hb, hd, oa, ob, wa, wb, k⟩
def sp_f_first_wrong (K : PySem.W.Frag) : Sp := fun vs H Q E => ∃ (p d : Addr) (xs : List V) (bs : List Bool) (kvs : List (Key × V)) (g : Str → Nat), vs = [.ref p, .ref d] ∧ (H p = some (.lst xs) ∨ H p = some (.tup xs)) ∧ Paired (HoldsOk K H kvs g) xs bs ∧ H d = some (.dK kvs) ∧ ∀ H', Sm H H' → Q (natV (firstF bs)) H'
theorem call_firstWrong {K : PySem.W.Frag} {H : Hp} {Q : VK} {E : XK} {p d : Addr} {xs : List V} {bs : List Bool} {kvs : List (Key × V)} {g : Str → Nat} (hp : H p = some (.lst xs) ∨ H p = some (.tup xs)) (hx : Paired (HoldsOk K H kvs g) xs bs) (hd : H d = some (.dK kvs)) (k : ∀ H', Sm H H' → Q (natV (firstF bs)) H') : sp_f_first_wrong K [.ref p, .ref d] H Q E := ⟨p, d, xs, bs, kvs, g, rfl, hp, hx, hd, k⟩
def spR_f_law_worth (K : PySem.W.Frag) : Nat → Sp
  | 0 => fun _ _ _ _ => False
  | m + 1 => fun vs H Q E => ∃ (v : V) (d : Addr) (t : Tm) (kvs : List (Key × V)) (g : Str → Nat), vs = [v, .ref d] ∧ TmAt K H t v ∧ H d = some (.dK kvs) ∧ TmOk kvs g t ∧ t.dep ≤ m ∧ Q (.int ((ev g t : Nat) : Int)) H
abbrev sp_f_law_worth (K : PySem.W.Frag) : Sp := spR_f_law_worth K 40
theorem call_lworth {K : PySem.W.Frag} {n : Nat} {H : Hp} {Q : VK} {E : XK} {v : V} {d : Addr} {t : Tm} {kvs : List (Key × V)} {g : Str → Nat} (hv : TmAt K H t v) (hd : H d = some (.dK kvs)) (ht : TmOk kvs g t) (hm : t.dep ≤ n) (k : Q (.int ((ev g t : Nat) : Int)) H) : spR_f_law_worth K (n + 1) [v, .ref d] H Q E := ⟨v, d, t, kvs, g, rfl, hv, hd, ht, hm, k⟩
def sp_f_law_holds (K : PySem.W.Frag) : Sp := fun vs H Q E => ∃ (s d : Addr) (w : Str) (l r : V) (a b : Tm) (kvs : List (Key × V)) (g : Str → Nat), vs = [.ref s, .ref d] ∧ TpK K H s [.str w, l, r] ∧ (w = "same" ∨ w = "under") ∧ TmAt K H a l ∧ TmAt K H b r ∧ H d = some (.dK kvs) ∧ TmOk kvs g a ∧ TmOk kvs g b ∧ a.dep ≤ 39 ∧ b.dep ≤ 39 ∧ ∀ H', Sm H H' → Q (.bl (if w = "under" then decide (ev g a &&& ev g b = ev g a) else decide (ev g a = ev g b))) H'
theorem call_lholds {K : PySem.W.Frag} {H : Hp} {Q : VK} {E : XK} {s d : Addr} {w : Str} {l r : V} {a b : Tm} {kvs : List (Key × V)} {g : Str → Nat} (hs : TpK K H s [.str w, l, r]) (hw : w = "same" ∨ w = "under") (ha : TmAt K H a l) (hb : TmAt K H b r) (hd : H d = some (.dK kvs)) (oa : TmOk kvs g a) (ob : TmOk kvs g b) (da : a.dep ≤ 39) (db : b.dep ≤ 39)
    (k : ∀ H', Sm H H' → Q (.bl (if w = "under" then decide (ev g a &&& ev g b = ev g a) else decide (ev g a = ev g b))) H') : sp_f_law_holds K [.ref s, .ref d] H Q E := ⟨s, d, w, l, r, a, b, kvs, g, rfl, hs, hw, ha, hb, hd, oa, ob, da, db, k⟩
def sp_f_law_first (K : PySem.W.Frag) : Sp := fun vs H Q E => ∃ (p d : Addr) (xs : List V) (ss : List SyW) (kvs : List (Key × V)), vs = [.ref p, .ref d] ∧ H p = some (.lst xs) ∧ TmsAt K H xs (ss.map opS) ∧ H d = some (.dK kvs) ∧ (∀ s ∈ ss, LookOk kvs s) ∧ ∀ H', Sm H H' → Q (natV (firstF (ss.map (holdB kvs)))) H'
theorem call_lawFirst {K : PySem.W.Frag} {H : Hp} {Q : VK} {E : XK} {p d : Addr} {xs : List V} {ss : List SyW} {kvs : List (Key × V)} (hp : H p = some (.lst xs)) (hx : TmsAt K H xs (ss.map opS)) (hd : H d = some (.dK kvs)) (hok : ∀ s ∈ ss, LookOk kvs s) (k : ∀ H', Sm H H' → Q (natV (firstF (ss.map (holdB kvs)))) H') : sp_f_law_first K [.ref p, .ref d] H Q E := ⟨p, d, xs, ss, kvs, rfl, hp, hx, hd, hok, k⟩
def sp_f_law_right (K : PySem.W.Frag) : Sp := fun vs H Q E => ∃ (p d : Addr) (a : Nat) (xs : List V) (ss : List SyW) (kvs : List (Key × V)) (ys : List Str) (M : Nat), vs = [.ref p, .ref d, .int (a : Nat)] ∧ H p = some (.lst xs) ∧ TmsAt K H xs (ss.map opS) ∧ ss.length ≤ 200 ∧ H d = some (.dK kvs) ∧ DicOk kvs ys M ∧ (∀ s ∈ ss, LookOk kvs s) ∧ ∀ H', Sm H H' → Q (.bl true) H'
theorem call_right43 {K : PySem.W.Frag} {H : Hp} {Q : VK} {E : XK} {p d : Addr} {a : Nat} {xs : List V} {ss : List SyW} {kvs : List (Key × V)} {ys : List Str} {M : Nat} (hp : H p = some (.lst xs)) (hx : TmsAt K H xs (ss.map opS)) (hl : ss.length ≤ 200) (hd : H d = some (.dK kvs)) (hk : DicOk kvs ys M) (hok : ∀ s ∈ ss, LookOk kvs s) (k : ∀ H', Sm H H' → Q (.bl true) H') : sp_f_law_right K [.ref p, .ref d, .int (a : Nat)] H Q E := ⟨p, d, a, xs, ss, kvs, ys, M, rfl, hp, hx, hl, hd, hk, hok, k⟩
def sp_f_law_least_c (K : PySem.W.Frag) : Sp := fun vs H Q E => ∃ (p b q : Addr) (rs : List Rw) (us xs : List V) (bs : List Nat) (ss : List (Nat × List Nat)), vs = [.ref p, .ref b, .ref q] ∧ H p = some (.lst us) ∧ RwsAt H us rs ∧ rs.length ≤ 14 ∧ H b = some (.lst (nV bs)) ∧ H q = some (.lst xs) ∧ SdL H xs ss ∧ (∃ k l, ss = (k, bs) :: l) ∧ ss.length ≤ 1000 ∧ SdBd ss 100000 ∧ ∀ H', Sm H H' → Q (.int (cL (grt ss) rs.length : Nat)) H'
theorem call_leastC {K : PySem.W.Frag} {H : Hp} {Q : VK} {E : XK} {p b q : Addr} {rs : List Rw} {us xs : List V} {bs : List Nat} {ss : List (Nat × List Nat)} (hp : H p = some (.lst us)) (hR : RwsAt H us rs) (hl : rs.length ≤ 14) (hbb : H b = some (.lst (nV bs))) (hq : H q = some (.lst xs)) (hx : SdL H xs ss) (hne : ∃ k l, ss = (k, bs) :: l) (hsl : ss.length ≤ 1000) (hb : SdBd ss 100000) (k : ∀ H', Sm H H' → Q (.int (cL (grt ss) rs.length : Nat)) H') : sp_f_law_least_c K [.ref p, .ref b, .ref q] H Q E := ⟨p, b, q, rs, us, xs, bs, ss, rfl, hp, hR, hl, hbb, hq, hx, hne, hsl, hb, k⟩
def sp_f_law_spoilt (K : PySem.W.Frag) : Sp := fun vs H Q E => ∃ (b d : Addr) (kvs : List (Key × V)) (ys : List Str) (N : Nat), vs = [.ref b, .ref d] ∧ BoxAt H b ∧ H d = some (.dK kvs) ∧ d ≠ b ∧ DicOk kvs ys (2 ^ N) ∧ 1 ≤ kvs.length ∧ kvs.length ≤ 100 ∧ 5 ≤ N ∧ N ≤ 6000 ∧ ∀ (d2 : Addr) (kvs2 : List (Key × V)) (H' : Hp), H d2 = none → H' d2 = some (.dK kvs2) → DicOk kvs2 ys (2 ^ (N + 1)) → kvs2.length = kvs.length → Kp b H H' → BoxAt H' b → Q (.ref d2) H'
theorem call_spoilt43 {K : PySem.W.Frag} {H : Hp} {Q : VK} {E : XK} {b d : Addr} {kvs : List (Key × V)} {ys : List Str} {N : Nat} (hB : BoxAt H b) (hd : H d = some (.dK kvs)) (hdb : d ≠ b) (hk : DicOk kvs ys (2 ^ N)) (hl1 : 1 ≤ kvs.length) (hl2 : kvs.length ≤ 100) (hN1 : 5 ≤ N) (hN2 : N ≤ 6000) (k : ∀ (d2 : Addr) (kvs2 : List (Key × V)) (H' : Hp), H d2 = none → H' d2 = some (.dK kvs2) → DicOk kvs2 ys (2 ^ (N + 1)) → kvs2.length = kvs.length → Kp b H H' → BoxAt H' b → Q (.ref d2) H') : sp_f_law_spoilt K [.ref b, .ref d] H Q E := ⟨b, d, kvs, ys, N, rfl, hB, hd, hdb, hk, hl1, hl2, hN1, hN2, k⟩
def sp_f_law_tame (K : PySem.W.Frag) : Sp := fun vs H Q E => ∃ (d : Addr) (kvs : List (Key × V)) (ys : List Str) (N : Nat), vs = [.ref d] ∧ H d = some (.dK kvs) ∧ DicOk kvs ys (2 ^ N) ∧ Str.ofString "c" ∈ ys ∧ Str.ofString "s" ∈ ys ∧ N ≤ 6000 ∧ Q (.bl (decide (gOf kvs "c" * (gOf kvs "s" + 1) < 5000))) H
theorem call_tame {K : PySem.W.Frag} {H : Hp} {Q : VK} {E : XK} {d : Addr} {kvs : List (Key × V)} {ys : List Str} {N : Nat} (hd : H d = some (.dK kvs)) (hk : DicOk kvs ys (2 ^ N)) (hc : Str.ofString "c" ∈ ys) (hs : Str.ofString "s" ∈ ys) (hN : N ≤ 6000) (k : Q (.bl (decide (gOf kvs "c" * (gOf kvs "s" + 1) < 5000))) H) : sp_f_law_tame K [.ref d] H Q E := ⟨d, kvs, ys, N, rfl, hd, hk, hc, hs, hN, k⟩
def sp_f_law (K : PySem.W.Frag) : Sp := fun vs H Q E => ∃ (a : Addr) (ns : List Int), vs = [.ref a] ∧ SqF K H a (ns.map V.int) ∧ ns.length ≤ 63 ∧ ∀ H', Q (.bl true) H'
section
variable {P : Program} {w : World} {K : PySem.W.Frag} {mg : Str → Option Value} {base : Heap}
/-! ### _law_box -/
theorem ok_f_law_box {f : Addr} {fd : FuncData} (F : Fun K "_law_box" "_law_box" s_f_law_box f fd)
    (m_len : mg "len" = none)
    (m_int : mg "int" = none) :
    FnG P w K mg base CX0 1 f fd ["script", "k"] (sp_f_law_box K) := by
  refine okG F sc_f_law_box (fun vs H Q E h => ?_) (fun cdv A outer s H vs Q E hr h => ⟨_, (pss_cons (ps_set (i := 2) sc_f_law_box.nd rfl (by first | exact Or.inl rfl | exact Or.inr rfl) (pe_op (op_gAdd (K := K) rfl) (pe_op op_gMul pe_int (pv 1)) pe_int))
    (pss_cons (ps_if (pt_cmpR op_gLt (pv 1) (pe_callB (call_gLen (K := K) rfl) (by rfl) m_len PySem.boot_len (pa_cons (pv 0) pa_nil)) (nomark _)) (pss_one (ps_set (i := 2) sc_f_law_box.nd rfl (by first | exact Or.inl rfl | exact Or.inr rfl) (pe_ix (ix_g (K := K) rfl) (pv 0) (pv 1) (fun _ _ => rfl)))) (pss_one (ps_if (pt_cmpR op_gGt (pe_callB (call_gLen (K := K) rfl) (by rfl) m_len PySem.boot_len (pa_cons (pv 0) pa_nil)) pe_int (nomark _)) (pss_one (ps_set (i := 2) sc_f_law_box.nd rfl (by first | exact Or.inl rfl | exact Or.inr rfl) (pe_op (op_gAdd (K := K) rfl) (pv 2) (pe_op op_gMul (pe_op op_gMod (pe_ix (ix_g (K := K) rfl) (pv 0) (pe_op op_gMod (pv 1) (pe_callB (call_gLen (K := K) rfl) (by rfl) m_len PySem.boot_len (pa_cons (pv 0) pa_nil))) (fun _ _ => rfl)) pe_int) pe_int)))) pss_nil)))
    (pss_cons (ps_set (i := 3) sc_f_law_box.nd rfl (by first | exact Or.inl rfl | exact Or.inr rfl) (pe_op (op_gAdd (K := K) rfl) (pe_op op_gMod (pe_op (op_gAdd (K := K) rfl) (pe_op op_gMul (pe_op op_gMod (pv 2) pe_int) pe_int) (pe_op op_gMul pe_int (pv 1))) pe_int) pe_int))
    (pss_one (ps_ret (pe_lst (pa_cons (pe_ix (ix_g (K := K) rfl) (pe_lst (pa_cons pe_int (pa_cons (pv 2) pa_nil))) (pe_callTy call_gInt (by rfl) m_int PyProof.Rows.boot_int (pa_cons (pe_cmpR op_gGe (pv 2) (pe_op op_gPow pe_int pe_int) (nomark _)) pa_nil)) (fun _ _ => rfl)) (pa_cons (pv 3) pa_nil)))))))), ?_⟩)
  · obtain ⟨_, _, _, rfl, _⟩ := h
    rfl
  · obtain ⟨a, ns, i, rfl, hS, h0, h1, k⟩ := h
    try dsimp only [cxOf, Cx.nox, Cx.wish]
    change (_ : L2.TS) _ [some (.ref a), some (.int i), none, none] _
    refine w_start ?_
    have big : (0 : Int) ≤ 10 ^ Int.toNat 18 := by decide
    repeat' (tm_at "rs")
    · refine w_ixInts hS h0 (by assumption) (fun n _ => ?_)
      repeat' (tm_at "rs")
      all_goals refine k _ _ ?_ ?_ ⟨_, _, by assumption, by omega, by omega, by omega⟩
      all_goals tm_at "rz"
    · rename_i z z1 z2 z3 z4
      refine w_ixInts hS z2 z3 (fun n _ => ?_)
      repeat' (tm_at "rs")
      all_goals refine k _ _ ?_ ?_ ⟨_, _, by assumption, by omega, by omega, by omega⟩
      all_goals tm_at "rz"
    all_goals refine k _ _ ?_ ?_ ⟨_, _, by assumption, by omega, by omega, by omega⟩
    all_goals tm_at "rz"
/-! ### _law_take -/
theorem ok_f_law_take {f : Addr} {fd : FuncData} (F : Fun K "_law_take" "_law_take" s_f_law_take f fd) :
    FnG P w K mg base CX0 1 f fd ["box", "wide"] (sp_f_law_take K) := by
  refine okG F sc_f_law_take (fun vs H Q E h => ?_) (fun cdv A outer s H vs Q E hr h => ⟨_, (pss_cons (ps_if (pt_cmpR op_gGt (pe_ix (ix_g (K := K) rfl) (pv 0) pe_int (fun _ _ => rfl)) pe_int (nomark _)) (pss_cons (ps_set (i := 2) sc_f_law_take.nd rfl (by first | exact Or.inl rfl | exact Or.inr rfl) (pe_op op_gMod (pe_ix (ix_g (K := K) rfl) (pv 0) pe_int (fun _ _ => rfl)) (pv 1)))
    (pss_cons (ps_asg (pe_op op_gDiv (pe_ix (ix_g (K := K) rfl) (pv 0) pe_int (fun _ _ => rfl)) (pv 1)) (pg_sub (pv 0) pe_int set_list))
    (pss_one (ps_ret (pv 2))))) pss_nil)
    (pss_cons (ps_set (i := 3) sc_f_law_take.nd rfl (by first | exact Or.inl rfl | exact Or.inr rfl) (pe_op op_gMod (pe_op op_gMul (pe_ix (ix_g (K := K) rfl) (pv 0) pe_int (fun _ _ => rfl)) pe_int) pe_int))
    (pss_cons (ps_asg (pe_op (op_gAdd (K := K) rfl) (pe_op op_gMod (pe_op (op_gAdd (K := K) rfl) (pe_op op_gMul (pv 3) pe_int) pe_int) pe_int) pe_int) (pg_sub (pv 0) pe_int set_list))
    (pss_one (ps_ret (pe_op op_gMod (pe_op op_gDiv (pe_op (op_gAdd (K := K) rfl) (pe_op op_gMul (pv 3) pe_int) (pe_ix (ix_g (K := K) rfl) (pv 0) pe_int (fun _ _ => rfl))) pe_int) (pv 1))))))), ?_⟩)
  · obtain ⟨_, _, rfl, _⟩ := h
    rfl
  · obtain ⟨b, w, rfl, hB, hw, k⟩ := h
    try dsimp only [cxOf, Cx.nox, Cx.wish]
    change (_ : L2.TS) _ [some (.ref b), some (.int w), none, none] _
    refine w_start ?_
    obtain ⟨x, s, hb, hx, hs, hs2⟩ := hB
    obtain ⟨hw0, hw1⟩ := hw
    repeat' (tm_at "rs")
    · refine k _ _ (by omega) (by omega) (by assumption) ⟨_, _, by assumption, ?_, hs, hs2⟩
      exact Int.ediv_nonneg hx (by omega)
    · refine k _ _ (by omega) (by omega) (by assumption) ⟨_, _, by assumption, hx, ?_, ?_⟩
      · omega
      · omega
/-! ### _law_piece -/
theorem ok_f_law_piece {f : Addr} {fd : FuncData} (F : Fun K "_law_piece" "_law_piece" s_f_law_piece f fd)
    (D_f_law_take : Def P w K mg base CX0 "_law_take" 1 ["box", "wide"] (sp_f_law_take K))
    (m_range : mg "range" = none)
    (m_len : mg "len" = none)
    (m_int : mg "int" = none) :
    FnG P w K mg base CX0 2 f fd ["box", "boxes", "at"] (sp_f_law_piece K) := by
  refine okG F sc_f_law_piece (fun vs H Q E h => ?_) (fun cdv A outer s H vs Q E hr h => ⟨_, (pss_cons (ps_set (i := 3) sc_f_law_piece.nd rfl (by first | exact Or.inl rfl | exact Or.inr rfl) (pe_f D_f_law_take (hr.mono (by omega)) (by rfl) pass0 (pa_cons (pv 0) (pa_cons pe_int pa_nil))))
    (pss_cons (ps_set (i := 4) sc_f_law_piece.nd rfl (by first | exact Or.inl rfl | exact Or.inr rfl) (pe_f D_f_law_take (hr.mono (by omega)) (by rfl) pass0 (pa_cons (pv 0) (pa_cons (pv 1) pa_nil))))
    (pss_cons (ps_if (pt_cmpR (op_gEq (K := K) rfl hr.units) (pv 3) pe_int (nomark _)) (pss_one (ps_ret (pe_op op_gMul (pe_lst (pa_cons (pe_tup (pa_cons pe_str (pa_cons (pv 4) pa_nil))) pa_nil)) (pe_op (op_gAdd (K := K) rfl) pe_int (pe_f D_f_law_take (hr.mono (by omega)) (by rfl) pass0 (pa_cons (pv 0) (pa_cons pe_int pa_nil))))))) pss_nil)
    (pss_cons (ps_if (pt_cmpR (op_gEq (K := K) rfl hr.units) (pv 3) pe_int (nomark _)) (pss_one (ps_ret (pe_lst (pa_cons (pe_ix (ix_g (K := K) rfl) (pe_lst (pa_cons (pe_tup (pa_cons pe_str (pa_cons (pe_op (op_gAdd (K := K) rfl) (pv 2) pe_int) pa_nil))) (pa_cons (pe_tup (pa_cons pe_str (pa_cons (pv 4) (pa_cons (pe_op (op_gAdd (K := K) rfl) (pv 2) pe_int) pa_nil)))) pa_nil))) (pe_f D_f_law_take (hr.mono (by omega)) (by rfl) pass0 (pa_cons (pv 0) (pa_cons pe_int pa_nil))) (fun _ _ => rfl)) pa_nil)))) pss_nil)
    (pss_cons (ps_asg (pe_lc (own := _) rfl sc_f_law_piece.nd (pi_range1 (by rfl) m_range (pa_cons (pv 1) pa_nil)) (blkOk_by (own := [("k", 6)]) (N := ["box", "boxes", "at", "form", "j", "some", "k", "body"]) (sc := defScope s_f_law_piece) (by decide +kernel)) (fun _ _ _ _ _ => (pg_name (i := 6) sc_f_law_piece.nd rfl (by first | exact Or.inl rfl | exact Or.inr rfl))) (fun _ _ _ _ _ => pts_one (pt_cmpR (op_gNe (K := K) rfl hr.units) (pv 6) (pv 4) (nomark _))) (fun _ _ _ _ _ => (pv 6))) (pg_name (i := 5) sc_f_law_piece.nd rfl (by first | exact Or.inl rfl | exact Or.inr rfl)))
    (pss_cons (ps_setLc (i := 7) rfl sc_f_law_piece.nd rfl rfl (sw_true rfl rfl rfl (by decide +kernel)) (pi_range1 (by rfl) m_range (pa_cons (pe_op op_gMul (pe_f D_f_law_take (hr.mono (by omega)) (by rfl) pass0 (pa_cons (pv 0) (pa_cons pe_int pa_nil))) (pe_callTy call_gInt (by rfl) m_int PyProof.Rows.boot_int (pa_cons (pe_cmpR op_gGt (pe_callB (call_gLen (K := K) rfl) (by rfl) m_len PySem.boot_len (pa_cons (pv 5) pa_nil)) pe_int (nomark _)) pa_nil))) pa_nil)) (blkOk_by (own := [("k", 6)]) (N := ["box", "boxes", "at", "form", "j", "some", "k", "body"]) (sc := defScope s_f_law_piece) (by decide +kernel)) (fun _ _ _ _ _ => (pg_name (i := 6) sc_f_law_piece.nd rfl (by first | exact Or.inl rfl | exact Or.inr rfl))) (fun _ _ _ _ _ => pts_nil) (fun _ _ _ _ _ => (pe_tup (pa_cons pe_str (pa_cons (pe_ix (ix_g (K := K) rfl) (pv 5) (pe_f D_f_law_take (hr.mono (by omega)) (by rfl) pass0 (pa_cons (pv 0) (pa_cons (pe_callB (call_gLen (K := K) rfl) (by rfl) m_len PySem.boot_len (pa_cons (pv 5) pa_nil)) pa_nil))) (fun _ _ => rfl)) pa_nil)))))
    (pss_one (ps_ret (pe_op (op_gAdd (K := K) rfl) (pe_op (op_gAdd (K := K) rfl) (pe_lst (pa_cons (pe_tup (pa_cons pe_str (pa_cons (pv 4) (pa_cons (pe_op (op_gAdd (K := K) rfl) (pe_op (op_gAdd (K := K) rfl) (pv 2) pe_int) (pe_callB (call_gLen (K := K) rfl) (by rfl) m_len PySem.boot_len (pa_cons (pv 7) pa_nil))) pa_nil)))) (pa_cons (pe_tup (pa_cons pe_str (pa_cons (pv 4) pa_nil))) pa_nil))) (pv 7)) (pe_lst (pa_cons (pe_tup (pa_cons pe_str (pa_cons (pv 2) pa_nil))) pa_nil))))))))))), ?_⟩)
  · obtain ⟨_, _, _, rfl, _⟩ := h
    rfl
  · obtain ⟨b, m, t, rfl, hB, m1, m5, t1, k⟩ := h
    try dsimp only [cxOf, Cx.nox, Cx.wish]
    change (_ : L2.TS) _ [some (.ref b), some (.int (m : Int)), some (.int (t : Int)), none, none, none, none, none] _
    refine w_start ?_
    repeat' (tm_at "rs")
    · rename_i f Ha f0 f1 ka ba j Hb j0 j1 kb bb c1 s1 Hc n1 t1' g1 l1 Hd n2 t2 g2 z He z0 z1 kc bc
      obtain ⟨j, rfl⟩ := Int.eq_ofNat_of_zero_le j0
      refine w_rep1V (by tm_at "rlk") (by omega) (by omega) (fun p H' np sp gp => ?_)
      repeat' (tm_at "rs")
      have a1 : Tk Hc H' := by tm_at "rtk"
      have e1 : (List.replicate (1 + z).toNat (Rw.up j)).length = (1 + z).toNat := List.length_replicate
      exact k p _ (List.replicate (1 + z).toNat (.up j)) H' (by tm_at "rfr") gp (paired_rep (rw_one (a1 _ _ g1)) _) (by omega) (by omega) (fun r hr => by rw [(List.mem_replicate.mp hr).2]; show j < m; omega) (by tm_at "rkp") (by tm_at "rbx")
    · rename_i f Ha f0 f1 ka ba j Hb j0 j1 kb bb c1 c2 s1 Hc n1 t1' g1 s2 Hd n2 t2 g2 l1 He n3 t3 g3 z Hf z0 z1 kc bc
      obtain ⟨j, rfl⟩ := Int.eq_ofNat_of_zero_le j0
      have a2 : Tk Hd Hf := by tm_at "rtk"
      have a1 : Tk Hc Hf := by tm_at "rtk"
      refine w_ixP (fun x => ∃ r, RwAt Hf x r ∧ r.ok m (t + 1 + 1)) (.inl (by tm_at "rsq")) z0 (by show z < 2; omega) (all2 ⟨.go (t + 1), rw_one (a1 _ _ g1), (show t + 1 < t + 1 + 1 by omega)⟩ ⟨.br j (t + 1), rw_one (a2 _ _ g2), (show j < m ∧ t + 1 < t + 1 + 1 by omega)⟩) (fun x hx => ?_)
      obtain ⟨r, hxr, ro⟩ := hx
      repeat' (tm_at "rs")
      rename_i p H' np sp gp
      exact k p _ [r] H' (by tm_at "rfr") gp (.cons (hxr.tk (Tk.sm sp)) .nil) (Nat.le_refl _) (by show 1 ≤ 6; decide) (RwsOk.one ro) (by tm_at "rkp") (by tm_at "rbx")
    · rename_i f Ha f0 f1 ka ba j Hb j0 j1 kb bb c1 c2
      obtain ⟨j, rfl⟩ := Int.eq_ofNat_of_zero_le j0
      have hm : ((m : Int)).toNat = m := Int.toNat_natCast m
      rw [hm]
      refine lcR (fun D i H' => ∃ xs : List Nat, H' D = some (.lst (nV xs)) ∧ xs.length ≤ i ∧ (∀ x ∈ xs, x < m) ∧ Sm Hb H') ?_ ?_ ?_
      · intro D H' nD sm hD
        exact ⟨[], hD, Nat.le_refl _, (fun x hx => by cases hx), sm⟩
      · rintro D i H' nD hi ⟨xs, hD, hl, hx, hs⟩
        have hxl := nV_len xs
        repeat' (tm_at "rs")
        · rename_i c3 H'' k3 g3
          refine ⟨xs ++ [i], by rw [nV_snoc]; rw [Int.zero_add] at g3; exact g3, by rw [List.length_append]; show xs.length + 1 ≤ _; omega, fun x hx2 => ?_, by tm_at "rsm"⟩
          rcases List.mem_append.mp hx2 with h | h
          · exact hx x h
          · rw [List.mem_singleton.mp h]
            exact hi
        · exact ⟨xs, hD, by omega, hx, hs⟩
      · rintro D Hc nD ⟨xs, hD, hl, hx, hs⟩
        have hxl := nV_len xs
        repeat' (tm_at "rs")
    
        all_goals
          rename_i z He z0 z1 ke be hh
          refine lcR (fun B i H' => ∃ us rs, H' B = some (.lst us) ∧ RwsAt H' us rs ∧ rs.length = i ∧ (∀ r ∈ rs, ∃ j, r = .up j ∧ j < m) ∧ Kp b He H' ∧ BoxAt H' b) ?_ ?_ ?_
          · intro B H' nB sm hB2
            exact ⟨[], [], hB2, .nil, rfl, (fun r hr => by cases hr), by tm_at "rkp", by tm_at "rbx"⟩
          · rintro B i H' nB hi ⟨us, rs, hB2, hr, hrl, ho, hk, hb⟩
            have hrl2 := paired_len hr
            have hDb : D ≠ b := ne_newB nD (by assumption)
            have hi2 : i < 3 := by omega
            have hx0 : 0 < xs.length := by
              rcases Nat.eq_zero_or_pos xs.length with h | h
              · exfalso
                rw [hxl, h] at hh
                omega
              · exact h
            repeat' (tm_at "rs")
            rename_i u Hf u0 u1 kf bf
            have hD4 : Hf D = some (.lst (nV xs)) := by tm_at "rlk"
            refine w_ixN (.inl (sq_of hD4)) u0 (by omega) (fun x hxx => ?_)
            repeat' (tm_at "rs")
            rename_i q Hg nq sq gq Hh kh gh
            have a2 : Tk Hg Hh := by tm_at "rtk"
            have a1 : Tk H' Hh := by clear a2; tm_at "rtk"
            refine ⟨_, rs ++ [.up x], gh, paired_app (hr.tk a1) (.cons (rw_one (r := .up x) (a2 _ _ gq)) .nil), by rw [List.length_append, hrl]; rfl, fun r hr2 => ?_, by tm_at "rkp", by tm_at "rbx"⟩
            rcases List.mem_append.mp hr2 with h | h
            · exact ho r h
            · exact ⟨x, List.mem_singleton.mp h, hx x hxx⟩
          · rintro B Hd nB ⟨us, rs, hB2, hr, hrl, ho, hk, hb⟩
            have hrl2 := paired_len hr
            have hrs3 : rs.length ≤ 3 := by omega
            repeat' (tm_at "rs")
            rename_i s1 H1 n1 t1' g1 s2 H2 n2 t2 g2 l1 H3 n3 t3 g3 l2 H4 n4 t4 g4 s3 H5 n5 t5 g5 l3 H6 n6 t6 g6 l4 H7 n7 t7 g7
            have a3 : Tk H5 H7 := by tm_at "rtk"
            have a2 : Tk H2 H7 := by clear a3; tm_at "rtk"
            have a1 : Tk H1 H7 := by clear a2 a3; tm_at "rtk"
            have a0 : Tk Hd H7 := by clear a1 a2 a3; tm_at "rtk"
            have g1' : H1 s1 = some (.tup (Rw.br j (t + 3 + rs.length)).vs) := by rw [g1, hrl2]; rfl
            have el : ([Rw.br j (t + 3 + rs.length), Rw.dn j] ++ rs ++ [Rw.go t]).length = rs.length + 3 := by
              rw [List.length_append, List.length_append]
              show 2 + rs.length + 1 = _
              omega
            exact k _ _ ([Rw.br j (t + 3 + rs.length), Rw.dn j] ++ rs ++ [Rw.go t]) _ (by tm_at "rfr") g7 (paired_app (paired_app (.cons (rw_one (a1 _ _ g1')) (.cons (rw_one (r := .dn j) (a2 _ _ g2)) .nil)) (hr.tk a0)) (.cons (rw_one (r := .go t) (a3 _ _ g5)) .nil)) (by omega) (by omega) (by
              rw [el]
              refine RwsOk.app (RwsOk.app (RwsOk.cons (r := Rw.br j (t + 3 + rs.length)) (show j < m ∧ t + 3 + rs.length < t + (rs.length + 3) + 1 by omega) (RwsOk.one (r := Rw.dn j) (show j < m by omega))) (fun r hr2 => ?_)) (RwsOk.one (r := Rw.go t) (show t < t + (rs.length + 3) + 1 by omega))
              obtain ⟨x, rfl, hx⟩ := ho r hr2
              exact hx) (by tm_at "rkp") (by tm_at "rbx")
/-! ### _law_ending_rows -/
theorem ok_f_law_ending_rows {f : Addr} {fd : FuncData} (F : Fun K "_law_ending_rows" "_law_ending_rows" s_f_law_ending_rows f fd)
    (D_f_law_piece : Def P w K mg base CX0 "_law_piece" 2 ["box", "boxes", "at"] (sp_f_law_piece K))
    (D_f_law_take : Def P w K mg base CX0 "_law_take" 1 ["box", "wide"] (sp_f_law_take K))
    (m_range : mg "range" = none)
    (m_len : mg "len" = none) :
    FnG P w K mg base CX0 3 f fd ["box", "boxes"] (sp_f_law_ending_rows K) := by
  refine okG F sc_f_law_ending_rows (fun vs H Q E h => ?_) (fun cdv A outer s H vs Q E hr h => ⟨_, (pss_cons (ps_set (i := 2) sc_f_law_ending_rows.nd rfl (by first | exact Or.inl rfl | exact Or.inr rfl) (pe_lst pa_nil))
    (pss_cons (ps_for PassesOwn.never rfl (pi_range1 (by rfl) m_range (pa_cons (pe_op (op_gAdd (K := K) rfl) pe_int (pe_f D_f_law_take (hr.mono (by omega)) (by rfl) pass0 (pa_cons (pv 0) (pa_cons pe_int pa_nil)))) pa_nil)) (pg_name (i := 3) sc_f_law_ending_rows.nd rfl (by first | exact Or.inl rfl | exact Or.inr rfl)) (pss_cons (ps_set (i := 4) sc_f_law_ending_rows.nd rfl (by first | exact Or.inl rfl | exact Or.inr rfl) (pe_f D_f_law_piece (hr.mono (by omega)) (by rfl) pass0 (pa_cons (pv 0) (pa_cons (pv 1) (pa_cons (pe_callB (call_gLen (K := K) rfl) (by rfl) m_len PySem.boot_len (pa_cons (pv 2) pa_nil)) pa_nil)))))
    (pss_one (ps_if (pt_cmpR op_gLt (pe_op (op_gAdd (K := K) rfl) (pe_callB (call_gLen (K := K) rfl) (by rfl) m_len PySem.boot_len (pa_cons (pv 2) pa_nil)) (pe_callB (call_gLen (K := K) rfl) (by rfl) m_len PySem.boot_len (pa_cons (pv 4) pa_nil))) pe_int (nomark _)) (pss_one (ps_set (i := 2) sc_f_law_ending_rows.nd rfl (by first | exact Or.inl rfl | exact Or.inr rfl) (pe_op (op_gAdd (K := K) rfl) (pv 2) (pv 4)))) pss_nil))))
    (pss_cons (ps_if (PW.pt (pw_and (pt_cmpR (op_gEq (K := K) rfl hr.units) (pe_f D_f_law_take (hr.mono (by omega)) (by rfl) pass0 (pa_cons (pv 0) (pa_cons pe_int pa_nil))) pe_int (nomark _)) (pw_and1 (pt_cmpR op_gLt (pe_callB (call_gLen (K := K) rfl) (by rfl) m_len PySem.boot_len (pa_cons (pv 2) pa_nil)) pe_int (nomark _))))) (pss_one (ps_set (i := 2) sc_f_law_ending_rows.nd rfl (by first | exact Or.inl rfl | exact Or.inr rfl) (pe_op (op_gAdd (K := K) rfl) (pv 2) (pe_lst (pa_cons (pe_tup (pa_cons pe_str (pa_cons (pe_f D_f_law_take (hr.mono (by omega)) (by rfl) pass0 (pa_cons (pv 0) (pa_cons (pv 1) pa_nil))) (pa_cons (pe_op (op_gAdd (K := K) rfl) (pe_callB (call_gLen (K := K) rfl) (by rfl) m_len PySem.boot_len (pa_cons (pv 2) pa_nil)) pe_int) pa_nil)))) (pa_cons (pe_tup (pa_cons pe_str pa_nil)) pa_nil)))))) pss_nil)
    (pss_one (ps_ret (pe_op (op_gAdd (K := K) rfl) (pv 2) (pe_lst (pa_cons (pe_tup (pa_cons pe_str pa_nil)) pa_nil)))))))), ?_⟩)
  · obtain ⟨_, _, rfl, _⟩ := h
    rfl
  · obtain ⟨b, m, rfl, hB, m1, m5, k⟩ := h
    try dsimp only [cxOf, Cx.nox, Cx.wish]
    change (_ : L2.TS) _ [some (.ref b), some (.int (m : Int)), none, none, none] _
    refine w_start ?_
    repeat' (tm_at "rs")
    rename_i l0 H1 nl sl gl w H2 w0 w1 k2 b2
    refine loopR (fun i σ' H' => ∃ (x3 x4 : Option V) (p : Addr) (vs : List V) (rs : List Rw), σ' = [some (.ref b), some (.int (m : Int)), some (.ref p), x3, x4] ∧ H p = none ∧ H' p = some (.lst vs) ∧ RwsAt H' vs rs ∧ rs.length ≤ 12 ∧ RwsOk m (rs.length + 1) rs ∧ Kp b H H' ∧ BoxAt H' b) ?_ ?_ ?_
    · exact ⟨_, _, l0, [], [], rfl, nl, by tm_at "rlk", .nil, by decide, RwsOk.nil, by tm_at "rkp", by tm_at "rbx"⟩
    · rintro i σ' H' hi ⟨x3, x4, p, vs, rs, rfl, np, hp, hr, hl, ho, hk, hb⟩
      have hvl := paired_len hr
      repeat' (tm_at "rs")
      rw [hvl]
      refine call_piece hb m1 m5 (by omega) (fun q us qs H3 nq gq hq q1 q6 oq k3 b3 => ?_)
      have hul := paired_len hq
      have hp3 : H3 p = some (.lst vs) := k3 _ _ (ne_newB np hB) hp
      repeat' (tm_at "rs")
      · rename_i c r H4 nr sr gr
        have t1 : Tk H' H4 := by tm_at "rtk"
        refine ⟨_, _, r, _, rs ++ qs, rfl, by tm_at "rfr", gr, paired_app (hr.tk t1) (hq.tk (Tk.sm sr)), by rw [List.length_append]; omega, ?_, by tm_at "rkp", by tm_at "rbx"⟩
        rw [List.length_append]
        exact (ho.up (by omega)).app (oq.up (by omega))
      · have t1 : Tk H' H3 := by tm_at "rtk"
        exact ⟨_, _, p, vs, rs, rfl, np, hp3, hr.tk t1, hl, ho, by tm_at "rkp", by tm_at "rbx"⟩
    · rintro σ' H' ⟨x3, x4, p, vs, rs, rfl, np, hp, hr, hl, ho, hk, hb⟩
      have hvl := paired_len hr
      repeat' (tm_at "rs")
      · rename_i z Ha z0 z1 ka ba c1 c2 j Hb j0 j1 kb bb s1 Hc n1 t1 g1 s2 Hd n2 t2 g2 l1 He n3 t3 g3 l2 Hf n4 t4 g4 s3 Hg n5 t5 g5 l3 Hi n6 t6 g6 l4 Hj n7 t7 g7
        obtain ⟨j, rfl⟩ := Int.eq_ofNat_of_zero_le j0
        have a3 : Tk Hg Hj := by tm_at "rtk"
        have a2 : Tk Hd Hg := by tm_at "rtk"
        have a1 : Tk Hc Hd := by tm_at "rtk"
        have a0 : Tk H' Hc := by tm_at "rtk"
        have b2 := Tk.trans a2 a3
        have b1 := Tk.trans a1 b2
        have b0 := Tk.trans a0 b1
        have g1' : Hc s1 = some (.tup (Rw.br j (rs.length + 2)).vs) := by rw [g1, hvl]; rfl
        exact k _ _ (rs ++ [Rw.br j (rs.length + 2), Rw.st] ++ [Rw.st]) _ (by tm_at "rfr") g7 (paired_app (paired_app (hr.tk b0) (.cons (rw_one (b1 _ _ g1')) (.cons (rw_one (r := .st) (b2 _ _ g2)) .nil))) (.cons (rw_one (r := .st) (a3 _ _ g5)) .nil)) ⟨m1, m5, by
          have el : (rs ++ [Rw.br j (rs.length + 2), Rw.st] ++ [Rw.st]).length = rs.length + 3 := by rw [List.length_append, List.length_append]; rfl
          rw [el]
          exact ((ho.up (by omega)).app (RwsOk.cons (r := Rw.br j (rs.length + 2)) (show j < m ∧ rs.length + 2 < rs.length + 3 by omega) (RwsOk.one (r := Rw.st) trivial))).app (RwsOk.one (r := Rw.st) trivial), by
          rw [List.length_append, List.length_append]
          show rs.length + 2 + 1 ≤ 14
          omega, _, .st, rfl, trivial⟩ (by tm_at "rkp") (by tm_at "rbx")
      all_goals
        rename_i s3 Hg n5 t5 g5 l3 Hi n6 t6 g6 l4 Hj n7 t7 g7
        have a3 : Tk Hg Hj := by tm_at "rtk"
        have a0 : Tk H' Hg := by tm_at "rtk"
        exact k _ _ (rs ++ [Rw.st]) _ (by tm_at "rfr") g7 (paired_app (hr.tk (Tk.trans a0 a3)) (.cons (rw_one (r := .st) (a3 _ _ g5)) .nil)) ⟨m1, m5, by
          rw [List.length_append]
          exact ho.app (RwsOk.one (r := Rw.st) trivial), by
          rw [List.length_append]
          show rs.length + 1 ≤ 14
          omega, _, .st, rfl, trivial⟩ (by tm_at "rkp") (by tm_at "rbx")
/-! ### _law_row -/
theorem ok_f_law_row {f : Addr} {fd : FuncData} (F : Fun K "_law_row" "_law_row" s_f_law_row f fd)
    (D_f_law_take : Def P w K mg base CX0 "_law_take" 1 ["box", "wide"] (sp_f_law_take K)) :
    FnG P w K mg base CX0 2 f fd ["box", "boxes", "many"] (sp_f_law_row K) := by
  refine okG F sc_f_law_row (fun vs H Q E h => ?_) (fun cdv A outer s H vs Q E hr h => ⟨_, (pss_cons (ps_set (i := 3) sc_f_law_row.nd rfl (by first | exact Or.inl rfl | exact Or.inr rfl) (pe_ix (ix_g (K := K) rfl) (pe_lst (pa_cons pe_str (pa_cons pe_str (pa_cons pe_str (pa_cons pe_str (pa_cons pe_str (pa_cons pe_str (pa_cons pe_str pa_nil)))))))) (pe_f D_f_law_take (hr.mono (by omega)) (by rfl) pass0 (pa_cons (pv 0) (pa_cons pe_int pa_nil))) (fun _ _ => rfl)))
    (pss_cons (ps_if (pt_cmpR (op_gEq (K := K) rfl hr.units) (pv 3) pe_str (nomark _)) (pss_one (ps_ret (pe_tup (pa_cons (pv 3) pa_nil)))) pss_nil)
    (pss_cons (ps_if (pt_cmpR (op_gEq (K := K) rfl hr.units) (pv 3) pe_str (nomark _)) (pss_one (ps_ret (pe_tup (pa_cons (pv 3) (pa_cons (pe_f D_f_law_take (hr.mono (by omega)) (by rfl) pass0 (pa_cons (pv 0) (pa_cons (pv 2) pa_nil))) pa_nil))))) pss_nil)
    (pss_cons (ps_if (pt_cmpR (op_gEq (K := K) rfl hr.units) (pv 3) pe_str (nomark _)) (pss_one (ps_ret (pe_tup (pa_cons (pv 3) (pa_cons (pe_f D_f_law_take (hr.mono (by omega)) (by rfl) pass0 (pa_cons (pv 0) (pa_cons (pv 1) pa_nil))) (pa_cons (pe_f D_f_law_take (hr.mono (by omega)) (by rfl) pass0 (pa_cons (pv 0) (pa_cons (pv 2) pa_nil))) pa_nil)))))) pss_nil)
    (pss_one (ps_ret (pe_tup (pa_cons (pv 3) (pa_cons (pe_f D_f_law_take (hr.mono (by omega)) (by rfl) pass0 (pa_cons (pv 0) (pa_cons (pv 1) pa_nil))) pa_nil))))))))), ?_⟩)
  · obtain ⟨_, _, _, rfl, _⟩ := h
    rfl
  · obtain ⟨b, m, n, rfl, hB, m1, m5, n1, n14, k⟩ := h
    try dsimp only [cxOf, Cx.nox, Cx.wish]
    change (_ : L2.TS) _ [some (.ref b), some (.int (m : Int)), some (.int (n : Int)), none] _
    refine w_start ?_
    repeat' (tm_at "rs")
    rename_i lw H1 nl sl gl w H2 w0 w1 k2 b2
    have glw : H1 lw = some (.lst (([Str.ofString "raise", Str.ofString "raise", Str.ofString "lower", Str.ofString "if", Str.ofString "if", Str.ofString "go", Str.ofString "stop"] : List Str).map V.str)) := gl
    refine w_ixStrs (ys := [Str.ofString "raise", Str.ofString "raise", Str.ofString "lower", Str.ofString "if", Str.ofString "if", Str.ofString "go", Str.ofString "stop"]) (by tm_at "rsq") w0 (by show w < 7; omega) (fun s hs => ?_)
    have hs : s = Str.ofString "raise" ∨ s = Str.ofString "lower" ∨ s = Str.ofString "if" ∨ s = Str.ofString "go" ∨ s = Str.ofString "stop" := by
      simp only [List.mem_cons, List.not_mem_nil, or_false] at hs
      rcases hs with h | h | h | h | h | h | h <;> simp [h]
    repeat' (tm_at "rs")
    · rename_i e p H3 np sp gp
      subst e
      exact k p .st H3 (by tm_at "rfr") gp trivial (by tm_at "rkp") (by tm_at "rbx")
    · rename_i e0 e g H3 g0 g1 k3 b3 p H4 np sp gp
      subst e
      obtain ⟨g, rfl⟩ := Int.eq_ofNat_of_zero_le g0
      exact k p (.go g) H4 (by tm_at "rfr") gp (show g < n by omega) (by tm_at "rkp") (by tm_at "rbx")
    · rename_i e0 e1 e j H3 j0 j1 k3 b3 g H5 g0 g1 k5 b5 p H4 np sp gp
      subst e
      obtain ⟨g, rfl⟩ := Int.eq_ofNat_of_zero_le g0
      obtain ⟨j, rfl⟩ := Int.eq_ofNat_of_zero_le j0
      exact k p (.br j g) H4 (by tm_at "rfr") gp (show j < m ∧ g < n by omega) (by tm_at "rkp") (by tm_at "rbx")
    · rename_i e0 e1 e j H3 j0 j1 k3 b3 p H4 np sp gp
      obtain ⟨j, rfl⟩ := Int.eq_ofNat_of_zero_le j0
      have hs2 : s = Str.ofString "raise" ∨ s = Str.ofString "lower" := by
        rcases hs with h | h | h | h | h
        · exact .inl h
        · exact .inr h
        · exact absurd h e
        · exact absurd h e1
        · exact absurd h e0
      rcases hs2 with rfl | rfl
      · exact k p (.up j) H4 (by tm_at "rfr") gp (show j < m by omega) (by tm_at "rkp") (by tm_at "rbx")
      · exact k p (.dn j) H4 (by tm_at "rfr") gp (show j < m by omega) (by tm_at "rkp") (by tm_at "rbx")
/-! ### _law_any_rows -/
theorem ok_f_law_any_rows {f : Addr} {fd : FuncData} (F : Fun K "_law_any_rows" "_law_any_rows" s_f_law_any_rows f fd)
    (D_f_law_take : Def P w K mg base CX0 "_law_take" 1 ["box", "wide"] (sp_f_law_take K))
    (D_f_law_row : Def P w K mg base CX0 "_law_row" 2 ["box", "boxes", "many"] (sp_f_law_row K))
    (m_range : mg "range" = none) :
    FnG P w K mg base CX0 3 f fd ["box", "boxes"] (sp_f_law_any_rows K) := by
  refine okG F sc_f_law_any_rows (fun vs H Q E h => ?_) (fun cdv A outer s H vs Q E hr h => ⟨_, (pss_cons (ps_set (i := 2) sc_f_law_any_rows.nd rfl (by first | exact Or.inl rfl | exact Or.inr rfl) (pe_op (op_gAdd (K := K) rfl) pe_int (pe_f D_f_law_take (hr.mono (by omega)) (by rfl) pass0 (pa_cons (pv 0) (pa_cons pe_int pa_nil)))))
    (pss_cons (ps_setLc (i := 3) rfl sc_f_law_any_rows.nd rfl rfl (sw_true rfl rfl rfl (by decide +kernel)) (pi_range1 (by rfl) m_range (pa_cons (pe_op op_sub (pv 2) pe_int) pa_nil)) (blkOk_by (own := [("k", 4)]) (N := ["box", "boxes", "many", "rows", "k"]) (sc := defScope s_f_law_any_rows) (by decide +kernel)) (fun _ _ _ _ _ => (pg_name (i := 4) sc_f_law_any_rows.nd rfl (by first | exact Or.inl rfl | exact Or.inr rfl))) (fun _ _ _ _ _ => pts_nil) (fun _ _ _ _ _ => (pe_f D_f_law_row (hr.mono (by omega)) (by rfl) pass0 (pa_cons (pv 0) (pa_cons (pv 1) (pa_cons (pv 2) pa_nil))))))
    (pss_one (ps_ret (pe_op (op_gAdd (K := K) rfl) (pv 3) (pe_lst (pa_cons (pe_ix (ix_g (K := K) rfl) (pe_lst (pa_cons (pe_tup (pa_cons pe_str pa_nil)) (pa_cons (pe_tup (pa_cons pe_str pa_nil)) (pa_cons (pe_tup (pa_cons pe_str (pa_cons (pe_f D_f_law_take (hr.mono (by omega)) (by rfl) pass0 (pa_cons (pv 0) (pa_cons (pv 2) pa_nil))) pa_nil))) pa_nil)))) (pe_f D_f_law_take (hr.mono (by omega)) (by rfl) pass0 (pa_cons (pv 0) (pa_cons pe_int pa_nil))) (fun _ _ => rfl)) pa_nil))))))), ?_⟩)
  · obtain ⟨_, _, rfl, _⟩ := h
    rfl
  · obtain ⟨b, m, rfl, hB, m1, m5, k⟩ := h
    try dsimp only [cxOf, Cx.nox, Cx.wish]
    change (_ : L2.TS) _ [some (.ref b), some (.int (m : Int)), none, none, none] _
    refine w_start ?_
    repeat' (tm_at "rs")
    rename_i n H1 n0 n1 k1 b1
    obtain ⟨n, rfl⟩ := Int.eq_ofNat_of_zero_le n0
    have en : (1 + (n : Int) - 1).toNat = n := by omega
    rw [en]
    refine lcR (fun D i H' => ∃ vs rs, H' D = some (.lst vs) ∧ RwsAt H' vs rs ∧ rs.length = i ∧ RwsOk m (1 + n) rs ∧ Kp b H1 H' ∧ BoxAt H' b) ?_ ?_ ?_
    · intro D H' nD sm hD
      exact ⟨[], [], hD, .nil, rfl, RwsOk.nil, by tm_at "rkp", by tm_at "rbx"⟩
    · rintro D i H' nD hi ⟨vs, rs, hD, hr, hl, ho, hk, hb⟩
      have hvl := paired_len hr
      repeat' (tm_at "rs")
      refine call_row (n := 1 + n) (by assumption) (by omega) (by omega) (by omega) (by omega) (fun p r H2 np gp ro k2 b2 => ?_)
      repeat' (tm_at "rs")
      rename_i H3 k3 g3
      have t2 : Tk H2 H3 := by tm_at "rtk"
      have t1 : Tk H' H3 := by tm_at "rtk"
      refine ⟨_, rs ++ [r], g3, paired_app (hr.tk t1) (.cons (rw_one (t2 _ _ gp)) .nil), by rw [List.length_append, hl]; rfl, ho.app (RwsOk.one ro), by tm_at "rkp", by tm_at "rbx"⟩
    · rintro D H2 nD ⟨vs, rs, hD, hr, hl, ho, hk, hb⟩
      have hvl := paired_len hr
      repeat' (tm_at "rs")
      rename_i s1 H3 n3 s3 g3 s2 H4 n4 s4 g4 g H5 g0 g1 k5 b5 s3' H6 n6 s6 g6 l1 H7 n7 s7 g7 t H8 t0 t1 k8 b8
      obtain ⟨g, rfl⟩ := Int.eq_ofNat_of_zero_le g0
      have a1 : Tk H3 H8 := by tm_at "rtk"
      have a2 : Tk H4 H8 := by tm_at "rtk"
      have a3 : Tk H6 H8 := by tm_at "rtk"
      refine w_ixP (fun x => ∃ r, RwAt H8 x r ∧ r.ok m (1 + n) ∧ r.ends) (.inl (by tm_at "rsq")) t0 (by show t < 3; omega) (all3 ⟨.st, rw_one (a1 _ _ g3), trivial, trivial⟩ ⟨.st, rw_one (a2 _ _ g4), trivial, trivial⟩ ⟨.go g, rw_one (a3 _ _ g6), (show g < 1 + n by omega), trivial⟩) (fun x hx => ?_)
      obtain ⟨r, hxr, ro, re⟩ := hx
      have hr8 : RwsAt H8 vs rs := hr.tk (by clear a1 a2 a3; tm_at "rtk")
      repeat' (tm_at "rs")
      rename_i q H9 nq sq gq q2 Ha nq2 sq2 gq2
      exact k _ _ (rs ++ [r]) _ (by tm_at "rfr") gq2 (paired_app (hr8.tk (Tk.trans (Tk.sm sq) (Tk.sm sq2))) (.cons (hxr.tk (Tk.trans (Tk.sm sq) (Tk.sm sq2))) .nil)) ⟨m1, m5, by rw [List.length_append, hl, Nat.add_comm]; exact ho.app (RwsOk.one ro), by rw [List.length_append, hl]; show n + 1 ≤ 14; omega, rs, r, rfl, re⟩ (by tm_at "rkp") (by tm_at "rbx")
/-! ### _law_some_program -/
theorem ok_f_law_some_program {f : Addr} {fd : FuncData} (F : Fun K "_law_some_program" "_law_some_program" s_f_law_some_program f fd)
    (D_f_law_take : Def P w K mg base CX0 "_law_take" 1 ["box", "wide"] (sp_f_law_take K))
    (D_f_law_ending_rows : Def P w K mg base CX0 "_law_ending_rows" 3 ["box", "boxes"] (sp_f_law_ending_rows K))
    (D_f_law_any_rows : Def P w K mg base CX0 "_law_any_rows" 3 ["box", "boxes"] (sp_f_law_any_rows K)) :
    FnG P w K mg base CX0 4 f fd ["box"] (sp_f_law_some_program K) := by
  refine okG F sc_f_law_some_program (fun vs H Q E h => ?_) (fun cdv A outer s H vs Q E hr h => ⟨_, (pss_cons (ps_set (i := 1) sc_f_law_some_program.nd rfl (by first | exact Or.inl rfl | exact Or.inr rfl) (pe_op (op_gAdd (K := K) rfl) pe_int (pe_f D_f_law_take (hr.mono (by omega)) (by rfl) pass0 (pa_cons (pv 0) (pa_cons pe_int pa_nil)))))
    (pss_cons (ps_if (pt_cmpR (op_gEq (K := K) rfl hr.units) (pe_f D_f_law_take (hr.mono (by omega)) (by rfl) pass0 (pa_cons (pv 0) (pa_cons pe_int pa_nil))) pe_int (nomark _)) (pss_one (ps_ret (pe_tup (pa_cons (pv 1) (pa_cons (pe_f D_f_law_any_rows (hr.mono (by omega)) (by rfl) pass0 (pa_cons (pv 0) (pa_cons (pv 1) pa_nil))) pa_nil))))) pss_nil)
    (pss_one (ps_ret (pe_tup (pa_cons (pv 1) (pa_cons (pe_f D_f_law_ending_rows (hr.mono (by omega)) (by rfl) pass0 (pa_cons (pv 0) (pa_cons (pv 1) pa_nil))) pa_nil))))))), ?_⟩)
  · obtain ⟨_, rfl, _⟩ := h
    rfl
  · obtain ⟨b, rfl, hB, k⟩ := h
    try dsimp only [cxOf, Cx.nox, Cx.wish]
    change (_ : L2.TS) _ [some (.ref b), none] _
    refine w_start ?_
    repeat' (tm_at "rs")
    · rename_i m H1 m0 m1 k1 b1 z H2 z0 z1 k2 b2 e
      obtain ⟨m, rfl⟩ := Int.eq_ofNat_of_zero_le m0
      refine call_anyRows (m := 1 + m) b2 (by omega) (by omega) (fun p vs rs H3 np gp hr hg k3 b3 => ?_)
      repeat' (tm_at "rs")
      rename_i q H4 nq sq gq
      exact k q p (1 + m) vs rs H4 (by tm_at "rfr") gq (sq _ _ gp) (hr.tk (Tk.sm sq)) hg (by tm_at "rkp") (by tm_at "rbx")
    · rename_i m H1 m0 m1 k1 b1 z H2 z0 z1 k2 b2 e
      obtain ⟨m, rfl⟩ := Int.eq_ofNat_of_zero_le m0
      refine call_endingRows (m := 1 + m) b2 (by omega) (by omega) (fun p vs rs H3 np gp hr hg k3 b3 => ?_)
      repeat' (tm_at "rs")
      rename_i q H4 nq sq gq
      exact k q p (1 + m) vs rs H4 (by tm_at "rfr") gq (sq _ _ gp) (hr.tk (Tk.sm sq)) hg (by tm_at "rkp") (by tm_at "rbx")
/-! ### _law_begin -/
theorem ok_f_law_begin {f : Addr} {fd : FuncData} (F : Fun K "_law_begin" "_law_begin" s_f_law_begin f fd)
    (D_f_law_take : Def P w K mg base CX0 "_law_take" 1 ["box", "wide"] (sp_f_law_take K))
    (m_range : mg "range" = none)
    (m_int : mg "int" = none) :
    FnG P w K mg base CX0 2 f fd ["box", "boxes"] (sp_f_law_begin K) := by
  refine okG F sc_f_law_begin (fun vs H Q E h => ?_) (fun cdv A outer s H vs Q E hr h => ⟨_, (pss_cons (ps_setLc (i := 2) rfl sc_f_law_begin.nd rfl rfl (sw_true rfl rfl rfl (by decide +kernel)) (pi_range1 (by rfl) m_range (pa_cons (pv 1) pa_nil)) (blkOk_by (own := [("j", 3)]) (N := ["box", "boxes", "found", "j", "turn"]) (sc := defScope s_f_law_begin) (by decide +kernel)) (fun _ _ _ _ _ => (pg_name (i := 3) sc_f_law_begin.nd rfl (by first | exact Or.inl rfl | exact Or.inr rfl))) (fun _ _ _ _ _ => pts_nil) (fun _ _ _ _ _ => (pe_f D_f_law_take (hr.mono (by omega)) (by rfl) pass0 (pa_cons (pv 0) (pa_cons pe_int pa_nil)))))
    (pss_cons (ps_for PassesOwn.never rfl (pi_range1 (by rfl) m_range (pa_cons (pe_op op_gMul (pe_op (op_gAdd (K := K) rfl) pe_int (pe_op op_gMul pe_int (pe_f D_f_law_take (hr.mono (by omega)) (by rfl) pass0 (pa_cons (pv 0) (pa_cons pe_int pa_nil))))) (pe_callTy call_gInt (by rfl) m_int PyProof.Rows.boot_int (pa_cons (pe_cmpR (op_gEq (K := K) rfl hr.units) (pe_f D_f_law_take (hr.mono (by omega)) (by rfl) pass0 (pa_cons (pv 0) (pa_cons pe_int pa_nil))) pe_int (nomark _)) pa_nil))) pa_nil)) (pg_name (i := 4) sc_f_law_begin.nd rfl (by first | exact Or.inl rfl | exact Or.inr rfl)) (pss_one (ps_asg (pe_f D_f_law_take (hr.mono (by omega)) (by rfl) pass0 (pa_cons (pv 0) (pa_cons pe_int pa_nil))) (pg_sub (pv 2) (pe_f D_f_law_take (hr.mono (by omega)) (by rfl) pass0 (pa_cons (pv 0) (pa_cons (pv 1) pa_nil))) set_list))))
    (pss_one (ps_ret (pv 2))))), ?_⟩)
  · obtain ⟨_, _, rfl, _⟩ := h
    rfl
  · obtain ⟨b, m, rfl, hB, m1, m5, k⟩ := h
    try dsimp only [cxOf, Cx.nox, Cx.wish]
    change (_ : L2.TS) _ [some (.ref b), some (.int (m : Nat)), none, none, none] _
    refine w_start ?_
    have hm : ((m : Int)).toNat = m := Int.toNat_natCast m
    repeat' (tm_at "rs")
    rw [hm]
    refine lcR (fun D i H' => ∃ cs, H' D = some (.lst (nV cs)) ∧ cs.length = i ∧ (∀ c ∈ cs, c ≤ 500) ∧ Kp b H H' ∧ BoxAt H' b) ?_ ?_ ?_
    · intro D H' nD sm hD
      exact ⟨[], hD, rfl, (fun c hc => by cases hc), by tm_at "rkp", by tm_at "rbx"⟩
    · rintro D i H' nD hi ⟨cs, hD, hl, hc, hk, hb⟩
      have hcl := nV_len cs
      repeat' (tm_at "rs")
      rename_i x H2 x0 x1 k2 b2 H3 k3 g3
      obtain ⟨x, rfl⟩ := Int.eq_ofNat_of_zero_le x0
      refine ⟨cs ++ [x], by rw [nV_snoc]; exact g3, by rw [List.length_append, hl]; rfl, fun c h => ?_, by tm_at "rkp", by tm_at "rbx"⟩
      rcases List.mem_append.mp h with h | h
      · exact hc c h
      · rw [List.mem_singleton.mp h]
        omega
    · rintro D H1 nD ⟨cs, hD, hl, hc, hk, hb⟩
      repeat' (tm_at "rs")
      all_goals
        rename_i x H2 x0 x1 k2 b2 y H3 y0 y1 k3 b3 e
        have hDb : D ≠ b := by
          intro e
          obtain ⟨_, _, q, _⟩ := hB
          rw [e, q] at nD
          cases nD
        have hD3 : H3 D = some (.lst (nV cs)) := by tm_at "rlk"
        refine loopR (fun i σ' H' => ∃ (x3 x4 : Option V) (cs : List Nat), σ' = [some (.ref b), some (.int (m : Nat)), some (.ref D), x3, x4] ∧ H' D = some (.lst (nV cs)) ∧ cs.length = m ∧ (∀ c ∈ cs, c ≤ 500) ∧ Kp b H H' ∧ BoxAt H' b) ?_ ?_ ?_
        · exact ⟨_, _, cs, rfl, hD3, hl, hc, by tm_at "rkp", by tm_at "rbx"⟩
        · rintro i σ' H4 hi ⟨x3, x4, ds, rfl, hD4, hl4, hc4, hk4, hb4⟩
          have hdl := nV_len ds
          repeat' (tm_at "rs")
          rename_i z H5 z0 z1 k5 b5 w H6 w0 w1 k6 b6
          obtain ⟨z, rfl⟩ := Int.eq_ofNat_of_zero_le z0
          obtain ⟨w, rfl⟩ := Int.eq_ofNat_of_zero_le w0
          refine w_setL (n := w) (by tm_at "rlk") (by unfold ixN; rw [if_pos w0, if_pos (by omega), Int.toNat_natCast]) (fun H7 k7 g7 => ?_)
          refine ⟨_, _, ds.set w z, rfl, by rw [g7]; unfold nV; rw [List.map_set], by rw [List.length_set]; exact hl4, fun c h => ?_, by tm_at "rkp", by tm_at "rbx"⟩
          rcases List.mem_or_eq_of_mem_set h with h | h
          · exact hc4 c h
          · omega
        · rintro σ' H4 ⟨x3, x4, ds, rfl, hD4, hl4, hc4, hk4, hb4⟩
          repeat' (tm_at "rs")
          exact k D ds H4 nD hD4 hl4 hc4 hk4 hb4
/-! ### _law_after -/
theorem ok_f_law_after {f : Addr} {fd : FuncData} (F : Fun K "_law_after" "_law_after" s_f_law_after f fd)
    (m_int : mg "int" = none) :
    FnG P w K mg base CX0 1 f fd ["rows", "stand"] (sp_f_law_after K) := by
  refine okG F sc_f_law_after (fun vs H Q E h => ?_) (fun cdv A outer s H vs Q E hr h => ⟨_, (pss_cons (ps_asg (pv 1) (pg_gt (K := K) (n := 2) rfl rfl (pgs_cons (pg_name (i := 2) sc_f_law_after.nd rfl (by first | exact Or.inl rfl | exact Or.inr rfl)) (pgs_cons (pg_name (i := 3) sc_f_law_after.nd rfl (by first | exact Or.inl rfl | exact Or.inr rfl)) pgs_nil))))
    (pss_cons (ps_set (i := 4) sc_f_law_after.nd rfl (by first | exact Or.inl rfl | exact Or.inr rfl) (pe_ix (ix_g (K := K) rfl) (pe_ix (ix_g (K := K) rfl) (pv 0) (pv 2) (fun _ _ => rfl)) pe_int (fun _ _ => rfl)))
    (pss_cons (ps_if (pt_cmpR (op_gEq (K := K) rfl hr.units) (pv 4) pe_str (nomark _)) (pss_one (ps_ret pe_non)) pss_nil)
    (pss_cons (ps_if (pt_cmpR (op_gEq (K := K) rfl hr.units) (pv 4) pe_str (nomark _)) (pss_one (ps_ret (pe_tup (pa_cons (pe_ix (ix_g (K := K) rfl) (pe_ix (ix_g (K := K) rfl) (pv 0) (pv 2) (fun _ _ => rfl)) pe_int (fun _ _ => rfl)) (pa_cons (pv 3) pa_nil))))) pss_nil)
    (pss_cons (ps_set (i := 5) sc_f_law_after.nd rfl (by first | exact Or.inl rfl | exact Or.inr rfl) (pe_ix (ix_g (K := K) rfl) (pe_ix (ix_g (K := K) rfl) (pv 0) (pv 2) (fun _ _ => rfl)) pe_int (fun _ _ => rfl)))
    (pss_cons (ps_if (pt_cmpR (op_gEq (K := K) rfl hr.units) (pv 4) pe_str (nomark _)) (pss_one (ps_ret (pe_tup (pa_cons (pe_ix (ix_g (K := K) rfl) (pe_lst (pa_cons (pe_op (op_gAdd (K := K) rfl) (pv 2) pe_int) (pa_cons (pe_ix (ix_g (K := K) rfl) (pe_ix (ix_g (K := K) rfl) (pv 0) (pv 2) (fun _ _ => rfl)) pe_int (fun _ _ => rfl)) pa_nil))) (pe_callTy call_gInt (by rfl) m_int PyProof.Rows.boot_int (pa_cons (pe_cmpR (op_gEq (K := K) rfl hr.units) (pe_ix (ix_g (K := K) rfl) (pv 3) (pv 5) (fun _ _ => rfl)) pe_int (nomark _)) pa_nil)) (fun _ _ => rfl)) (pa_cons (pv 3) pa_nil))))) pss_nil)
    (pss_cons (ps_if (PW.pt (pw_and (pt_cmpR (op_gEq (K := K) rfl hr.units) (pv 4) pe_str (nomark _)) (pw_and1 (pt_cmpR (op_gEq (K := K) rfl hr.units) (pe_ix (ix_g (K := K) rfl) (pv 3) (pv 5) (fun _ _ => rfl)) pe_int (nomark _))))) (pss_one (ps_ret pe_non)) pss_nil)
    (pss_cons (ps_set (i := 6) sc_f_law_after.nd rfl (by first | exact Or.inl rfl | exact Or.inr rfl) (pe_ix (ix_g (K := K) rfl) (pe_lst (pa_cons (pe_un un_neg pe_int) (pa_cons pe_int pa_nil))) (pe_callTy call_gInt (by rfl) m_int PyProof.Rows.boot_int (pa_cons (pe_cmpR (op_gEq (K := K) rfl hr.units) (pv 4) pe_str (nomark _)) pa_nil)) (fun _ _ => rfl)))
    (pss_one (ps_ret (pe_tup (pa_cons (pe_op (op_gAdd (K := K) rfl) (pv 2) pe_int) (pa_cons (pe_op (op_gAdd (K := K) rfl) (pe_op (op_gAdd (K := K) rfl) (pe_slice (sl_gl (K := K) rfl) (pv 3) po_none (po_some (pv 5))) (pe_tup (pa_cons (pe_op (op_gAdd (K := K) rfl) (pe_ix (ix_g (K := K) rfl) (pv 3) (pv 5) (fun _ _ => rfl)) (pv 6)) pa_nil))) (pe_slice (sl_gl (K := K) rfl) (pv 3) (po_some (pe_op (op_gAdd (K := K) rfl) (pv 5) pe_int)) po_none)) pa_nil))))))))))))), ?_⟩)
  · obtain ⟨_, _, _, _, _, _, _, rfl, _⟩ := h
    rfl
  · obtain ⟨a, z, m, k, cs, us, rs, rfl, ha, hr, hz, hg, hk, hc, kk⟩ := h
    try dsimp only [cxOf, Cx.nox, Cx.wish]
    change (_ : L2.TS) _ [some (.ref a), some (z), none, none, none, none, none] _
    refine w_start ?_
    obtain ⟨p0, t0, rfl, hs, ht⟩ := hz
    obtain ⟨r, hrk⟩ : ∃ r, rs[k]? = some r := ⟨_, List.getElem?_eq_getElem hk⟩
    have hro := hg.ok r (List.mem_of_getElem? hrk)
    have hcl := nV_len cs
    have hc5 : cs.length ≤ 5 := by have := hg.b5; omega
    have hz1 : ∀ j : Nat, (cutV (nV cs) none (some (j : Int))).length ≤ 5 := fun j => Nat.le_trans cut_len (by omega)
    have hz2 : ∀ j : Nat, (cutV (nV cs) (some ((j : Int) + 1)) none).length ≤ 5 := fun j => Nat.le_trans cut_len (by omega)
    repeat' (tm_at "rs")
    refine w_ixRow ha hr hrk (fun p hp => ?_)
    cases r
    · rename_i j
      have hz1 := hz1 j
      have hz2 := hz2 j
      have hj : j < cs.length := by rw [hc]; exact hro
      have hat := nV_at hj
      have hp : H p = some (.tup [.str "raise", .int (j : Int)]) := hp
      repeat' (tm_at "rs")
      refine w_ixRow ha hr hrk (fun p hp => ?_)
      have hp : H p = some (.tup [.str "raise", .int (j : Int)]) := hp
      repeat' (tm_at "rs")
      rename_i l1 Ha n1 s1 g1 q1 Hb s2 g2 q2 Hc n3 s3 g3 q3 Hd s4 g4 q4 He s5 g5 q5 Hf s6 g6 u Hg n7 s7 g7
      rw [set_cat (n := cs.getD j 0 + 1) hj (by omega)] at g6
      exact kk _ _ (by tm_at "rsm") (by rw [aft_up hrk]; exact ⟨u, q5, rfl, g7, s7 _ _ g6⟩)
    · rename_i j
      have hz1 := hz1 j
      have hz2 := hz2 j
      have hj : j < cs.length := by rw [hc]; exact hro
      have hat := nV_at hj
      have hp : H p = some (.tup [.str "lower", .int (j : Int)]) := hp
      repeat' (tm_at "rs")
      refine w_ixRow ha hr hrk (fun p hp => ?_)
      have hp : H p = some (.tup [.str "lower", .int (j : Int)]) := hp
      repeat' (tm_at "rs")
      · rename_i e
        exact kk _ _ (Same.refl _) (by rw [aft_dn0 hrk (by omega)]; rfl)
      · rename_i e l1 Ha n1 s1 g1 q1 Hb s2 g2 q2 Hc n3 s3 g3 q3 Hd s4 g4 q4 He s5 g5 q5 Hf s6 g6 u Hg n7 s7 g7
        rw [set_cat (n := cs.getD j 0 - 1) hj (by omega)] at g6
        exact kk _ _ (by tm_at "rsm") (by rw [aft_dn hrk (by omega)]; exact ⟨u, q5, rfl, g7, s7 _ _ g6⟩)
    · rename_i j g
      have hj : j < cs.length := by rw [hc]; exact hro.1
      have hat := nV_at hj
      have hp : H p = some (.tup [.str "if", .int (j : Int), .int (g : Int)]) := hp
      repeat' (tm_at "rs")
      refine w_ixRow ha hr hrk (fun p hp => ?_)
      have hp : H p = some (.tup [.str "if", .int (j : Int), .int (g : Int)]) := hp
      repeat' (tm_at "rs")
      refine w_ixRow ha hr hrk (fun p hp => ?_)
      have hp : H p = some (.tup [.str "if", .int (j : Int), .int (g : Int)]) := hp
      repeat' (tm_at "rs")
      · rename_i l1 H2 n2 s2 g2 e u H3 n3 s3 g3
        exact kk _ _ (by tm_at "rsm") (by rw [aft_br0 hrk (by omega)]; exact ⟨u, t0, rfl, g3, by tm_at "rlk"⟩)
      · rename_i l1 H2 n2 s2 g2 e u H3 n3 s3 g3
        exact kk _ _ (by tm_at "rsm") (by rw [aft_br hrk (by omega)]; exact ⟨u, t0, rfl, g3, by tm_at "rlk"⟩)
    · rename_i g
      have hp : H p = some (.tup [.str "go", .int (g : Int)]) := hp
      repeat' (tm_at "rs")
      refine w_ixRow ha hr hrk (fun p hp => ?_)
      have hp : H p = some (.tup [.str "go", .int (g : Int)]) := hp
      repeat' (tm_at "rs")
      rename_i u H2 n2 s2 g2
      exact kk _ _ (by tm_at "rsm") (by rw [aft_go hrk]; exact ⟨u, t0, rfl, g2, by tm_at "rlk"⟩)
    · have hp : H p = some (.tup [.str "stop"]) := hp
      repeat' (tm_at "rs")
      exact kk _ _ (Same.refl _) (by rw [aft_st hrk]; rfl)
/-! ### _law_run -/
theorem ok_f_law_run {f : Addr} {fd : FuncData} (F : Fun K "_law_run" "_law_run" s_f_law_run f fd)
    (D_f_law_after : Def P w K mg base CX0 "_law_after" 1 ["rows", "stand"] (sp_f_law_after K))
    (m_tuple : mg "tuple" = none)
    (m_len : mg "len" = none) :
    FnG P w K mg base CX0 2 f fd ["rows", "begin", "limit"] (sp_f_law_run K) := by
  refine okG F sc_f_law_run (fun vs H Q E h => ?_) (fun cdv A outer s H vs Q E hr h => ⟨_, (pss_cons (ps_set (i := 3) sc_f_law_run.nd rfl (by first | exact Or.inl rfl | exact Or.inr rfl) (pe_lst (pa_cons (pe_tup (pa_cons pe_int (pa_cons (pe_callTy (call_gTuple (K := K) rfl) (by rfl) m_tuple PyProof.Rows.boot_tuple (pa_cons (pv 1) pa_nil)) pa_nil))) pa_nil)))
    (pss_cons (ps_while PassesOwn.never (PW.pt (pw_and (pt_cmpR op_gLe (pe_callB (call_gLen (K := K) rfl) (by rfl) m_len PySem.boot_len (pa_cons (pv 3) pa_nil)) (pv 2) (nomark _)) (pw_and1 (pt_cmpR op_gNot (pe_f D_f_law_after (hr.mono (by omega)) (by rfl) pass0 (pa_cons (pv 0) (pa_cons (pe_ix (ix_g (K := K) rfl) (pv 3) (pe_un un_neg pe_int) (fun _ _ => rfl)) pa_nil))) pe_non (nomark _))))) (pss_one (ps_expr (pe_gbm (K := K) rfl PySem.F.plainAttrs_list PySem.F.slot_list_append PySem.F.type_list_append mt_append (pv 3) (pa_cons (pe_f D_f_law_after (hr.mono (by omega)) (by rfl) pass0 (pa_cons (pv 0) (pa_cons (pe_ix (ix_g (K := K) rfl) (pv 3) (pe_un un_neg pe_int) (fun _ _ => rfl)) pa_nil))) pa_nil)))))
    (pss_cons (ps_if (pt_cmpR (op_gEq (K := K) rfl hr.units) (pe_ix (ix_g (K := K) rfl) (pe_ix (ix_g (K := K) rfl) (pv 0) (pe_ix (ix_g (K := K) rfl) (pe_ix (ix_g (K := K) rfl) (pv 3) (pe_un un_neg pe_int) (fun _ _ => rfl)) pe_int (fun _ _ => rfl)) (fun _ _ => rfl)) pe_int (fun _ _ => rfl)) pe_str (nomark _)) (pss_one (ps_ret (pe_tup (pa_cons pe_str (pa_cons (pv 3) pa_nil))))) pss_nil)
    (pss_cons (ps_if (pt_cmpR op_gIs (pe_f D_f_law_after (hr.mono (by omega)) (by rfl) pass0 (pa_cons (pv 0) (pa_cons (pe_ix (ix_g (K := K) rfl) (pv 3) (pe_un un_neg pe_int) (fun _ _ => rfl)) pa_nil))) pe_non (nomark _)) (pss_one (ps_ret (pe_tup (pa_cons pe_str (pa_cons (pv 3) pa_nil))))) pss_nil)
    (pss_one (ps_ret (pe_tup (pa_cons pe_str (pa_cons (pv 3) pa_nil))))))))), ?_⟩)
  · obtain ⟨_, _, _, _, _, _, _, rfl, _⟩ := h
    rfl
  · obtain ⟨a, bp, m, M, us, bs, rs, rfl, ha, hr, hb, hg, hl, hM, k⟩ := h
    try dsimp only [cxOf, Cx.nox, Cx.wish]
    change (_ : L2.TS) _ [some (.ref a), some (.ref bp), some (.int (M : Nat)), none] _
    refine w_start ?_
    have hbl := nV_len bs
    repeat' (tm_at "rs")
    refine w_gTpl2 hb (fun t0 H1 s1 g1 => ?_)
    repeat' (tm_at "rs")
    rename_i t1 H2 n2 s2 g2 L H3 nL s3 g3
    have hLn : H L = none := by tm_at "rfr"
    have hs0 : H3 t1 = some (.tup [.int 0, .ref t0]) := by tm_at "rlk"
    have hst : StdAt H3 (.ref t1) 0 bs := ⟨t1, t0, rfl, hs0, by tm_at "rlk"⟩
    have hpos := hg.pos
    refine w_while (fun n σ' H' => ∃ pre last xs, σ' = [some (.ref a), some (.ref bp), some (.int (M : Nat)), some (.ref L)] ∧ H' L = some (.lst xs) ∧ SdL H' xs (pre ++ [last]) ∧ runL rs M (0, bs) = pre ++ runL rs (M - pre.length) last ∧ pre.length ≤ M ∧ last.1 < rs.length ∧ last.2.length = m ∧ Kp L H3 H' ∧ n + pre.length = M) M ⟨[], (0, bs), _, rfl, g3, .cons hst .nil, rfl, Nat.zero_le _, hpos, hl, Kp.refl _, rfl⟩ ?_
    rintro n σ' H' ⟨pre, last, xs, rfl, hL, hx, hrun, hpl, h1, h2, hkp, hn⟩
    have hxl : xs.length = pre.length + 1 := by rw [paired_len hx, List.length_append]; rfl
    have hsm : Sm H H' := by tm_at "rsm"
    have ha' := hsm _ _ ha
    have hr' := hr.tk (Tk.sm hsm)
    clear ha hr hb hst
    obtain ⟨ys, x, rfl, hys, hxs⟩ := paired_last hx
    obtain ⟨p0, q0, rfl, hp0, hq0⟩ := id hxs
    have hat := atI_last ys (V.ref p0)
    obtain ⟨r, hrk⟩ : ∃ r, rs[last.1]? = some r := ⟨_, List.getElem?_eq_getElem h1⟩
    obtain ⟨zs, hz⟩ := r.vs_word
    have hz0 : atI r.vs 0 = some (.str r.word) := by rw [hz]; exact atI_nat (j := 0) rfl
    have hw := r.word_st
    have hxl2 : (ys ++ [V.ref p0]).length ≤ 1001 := by omega
    cases hA : aftr rs last.1 last.2 with
    | none =>
      repeat' (tm_at "rs")
      · rename_i hle H5 s5 pr hpr e t6 H6 n6 s6 g6
        have hrs := hw.mp e
        subst hrs
        exact k t6 L _ pre last H6 hLn (by tm_at "rsm") (by rw [wordR_st hrk]; exact g6) (by tm_at "rlk") (hx.tk (by tm_at "rtk")) (runL_end hrun (.inl hA))
      · rename_i hle H5 s5 pr hpr e H5' s5' t6 H6 n6 s6 g6
        exact k t6 L _ pre last H6 hLn (by tm_at "rsm") (by rw [wordR_stuck hrk (fun z => e (hw.mpr z)) hA]; exact g6) (by tm_at "rlk") (hx.tk (by tm_at "rtk")) (runL_end hrun (.inl hA))
      · rename_i hle pr hpr e t6 H6 n6 s6 g6
        have hrs := hw.mp e
        subst hrs
        exact k t6 L _ pre last H6 hLn (by tm_at "rsm") (by rw [wordR_st hrk]; exact g6) (by tm_at "rlk") (hx.tk (by tm_at "rtk")) (runL_end hrun (.inl hA))
      · rename_i hle pr hpr e H5' s5' t6 H6 n6 s6 g6
        exact k t6 L _ pre last H6 hLn (by tm_at "rsm") (by rw [wordR_stuck hrk (fun z => e (hw.mpr z)) hA]; exact g6) (by tm_at "rlk") (hx.tk (by tm_at "rtk")) (runL_end hrun (.inl hA))
    | some s' =>
      have hk' : s'.1 < rs.length := aft_in hg hA
      have hc' : s'.2.length = m := aft_len hg h2 hA
      repeat' (tm_at "rs")
      · rename_i hle p5 H5 s5 hs5 p6 H6 s6 hs6 H7 k7 g7
        have t6 : Tk H6 H7 := by tm_at "rtk"
        have t5 : Tk H' H7 := by clear t6; tm_at "rtk"
        exact ⟨n - 1, by omega, pre ++ [last], s', _, rfl, g7, paired_app (hx.tk t5) (.cons (hs6.tk t6) .nil), runL_more hrun hA (by omega), by rw [List.length_append]; show pre.length + 1 ≤ M; omega, hk', hc', by tm_at "rkp", by rw [List.length_append]; show n - 1 + (pre.length + 1) = M; omega⟩
      · rename_i hle pr hpr e t6 H6 n6 s6 g6
        have hrs := hw.mp e
        subst hrs
        rw [aft_st hrk] at hA
        cases hA
      · rename_i hle pr hpr e p5 H5 s5 hs5 t6 H6 n6 s6 g6
        exact k t6 L _ pre last H6 hLn (by tm_at "rsm") (by rw [wordR_going hA]; exact g6) (by tm_at "rlk") (hx.tk (by tm_at "rtk")) (runL_end hrun (.inr (by omega)))
/-! ### _law_stopping -/
theorem ok_f_law_stopping {f : Addr} {fd : FuncData} (F : Fun K "_law_stopping" "_law_stopping" s_f_law_stopping f fd)
    (D_f_law_some_program : Def P w K mg base CX0 "_law_some_program" 4 ["box"] (sp_f_law_some_program K))
    (D_f_law_begin : Def P w K mg base CX0 "_law_begin" 2 ["box", "boxes"] (sp_f_law_begin K))
    (D_f_law_run : Def P w K mg base CX0 "_law_run" 2 ["rows", "begin", "limit"] (sp_f_law_run K))
    (m_range : mg "range" = none)
    (m_tuple : mg "tuple" = none) :
    FnG P w K mg base CX0 5 f fd ["box", "limit"] (sp_f_law_stopping K) := by
  refine okG F sc_f_law_stopping (fun vs H Q E h => ?_) (fun cdv A outer s H vs Q E hr h => ⟨_, (pss_cons (ps_for PassesOwn.never rfl (pi_range1 (by rfl) m_range (pa_cons pe_int pa_nil)) (pg_name (i := 2) sc_f_law_stopping.nd rfl (by first | exact Or.inl rfl | exact Or.inr rfl)) (pss_cons (ps_asg (pe_f D_f_law_some_program (hr.mono (by omega)) (by rfl) pass0 (pa_cons (pv 0) pa_nil)) (pg_gt (K := K) (n := 2) rfl rfl (pgs_cons (pg_name (i := 3) sc_f_law_stopping.nd rfl (by first | exact Or.inl rfl | exact Or.inr rfl)) (pgs_cons (pg_name (i := 4) sc_f_law_stopping.nd rfl (by first | exact Or.inl rfl | exact Or.inr rfl)) pgs_nil))))
    (pss_cons (ps_set (i := 5) sc_f_law_stopping.nd rfl (by first | exact Or.inl rfl | exact Or.inr rfl) (pe_f D_f_law_begin (hr.mono (by omega)) (by rfl) pass0 (pa_cons (pv 0) (pa_cons (pv 3) pa_nil))))
    (pss_cons (ps_asg (pe_f D_f_law_run (hr.mono (by omega)) (by rfl) pass0 (pa_cons (pv 4) (pa_cons (pv 5) (pa_cons (pv 1) pa_nil)))) (pg_gt (K := K) (n := 2) rfl rfl (pgs_cons (pg_name (i := 6) sc_f_law_stopping.nd rfl (by first | exact Or.inl rfl | exact Or.inr rfl)) (pgs_cons (pg_name (i := 7) sc_f_law_stopping.nd rfl (by first | exact Or.inl rfl | exact Or.inr rfl)) pgs_nil))))
    (pss_one (ps_if (pt_cmpR (op_gEq (K := K) rfl hr.units) (pv 6) pe_str (nomark _)) (pss_one (ps_ret (pe_tup (pa_cons (pv 3) (pa_cons (pv 4) (pa_cons (pv 5) (pa_cons (pv 7) pa_nil))))))) pss_nil))))))
    (pss_one (ps_ret (pe_tup (pa_cons (pv 3) (pa_cons (pe_lst (pa_cons (pe_tup (pa_cons pe_str pa_nil)) pa_nil)) (pa_cons (pv 5) (pa_cons (pe_lst (pa_cons (pe_tup (pa_cons pe_int (pa_cons (pe_callTy (call_gTuple (K := K) rfl) (by rfl) m_tuple PyProof.Rows.boot_tuple (pa_cons (pv 5) pa_nil)) pa_nil))) pa_nil)) pa_nil)))))))), ?_⟩)
  · obtain ⟨_, _, rfl, _⟩ := h
    rfl
  · obtain ⟨b, M, rfl, hB, hM, k⟩ := h
    try dsimp only [cxOf, Cx.nox, Cx.wish]
    change (_ : L2.TS) _ [some (.ref b), some (.int (M : Nat)), none, none, none, none, none, none] _
    refine w_start ?_
    repeat' (tm_at "rs")
    refine loopR (fun i σ' H' => ∃ (x2 x3 x4 x5 x6 x7 : Option V), σ' = [some (.ref b), some (.int (M : Nat)), x2, x3, x4, x5, x6, x7] ∧ BoxAt H' b ∧ Kp b H H' ∧ (i = 0 ∨ ∃ (m : Nat) (bp : Addr) (bs : List Nat), x3 = some (.int (m : Nat)) ∧ x5 = some (.ref bp) ∧ H bp = none ∧ H' bp = some (.lst (nV bs)) ∧ bs.length = m ∧ 1 ≤ m ∧ m ≤ 5 ∧ ∀ c ∈ bs, c ≤ 500)) ⟨_, _, _, _, _, _, rfl, hB, Kp.refl _, .inl rfl⟩ ?_ ?_
    · rintro i σ' H' hi ⟨x2, x3, x4, x5, x6, x7, rfl, hb, hk, _⟩
      repeat' (tm_at "rs")
      rename_i t p m us rs H1 np gt gp hr hg k1 b1
      refine call_begin b1 hg.b1 hg.b5 (fun bp bs H2 nb gb hbl hbc k2 b2 => ?_)
      have pb : p ≠ b := ne_newB np hb
      have bb : bp ≠ b := ne_newB nb b1
      have pbp : p ≠ bp := ne_of_none gp nb
      have gp2 := k2 _ _ pb gp
      have hr2 := hr.tk (Tk.kb b1 k2)
      repeat' (tm_at "rs")
      refine call_run gp2 hr2 (.inl gb) hg hbl (by omega) (fun t2 q xs pre last H3 nq s3 gt2 gq hx hrun => ?_)
      have nbH : H bp = none := kp_free (Kp.trans hk k1) bb nb
      have npH : H p = none := kp_free hk pb np
      have bqne : q ≠ b := ne_newB nq b2
      have nqH : H q = none := kp_free (Kp.trans hk (Kp.trans k1 k2)) bqne nq
      have b3 := b2.sm s3
      have k3 : Kp b H H3 := Kp.trans hk (Kp.trans k1 (Kp.trans k2 (Kp.of s3)))
      have gb3 := s3 _ _ gb
      have gp3 := s3 _ _ gp2
      have hr3 := hr2.tk (Tk.sm s3)
      have nbq : bp ≠ q := ne_of_none gb nq
      have npq : p ≠ q := ne_of_none gp2 nq
      repeat' (tm_at "rs")
      · rename_i e T H4 nT sT gT
        have hst := word_stp.mp e
        have hlen := (runL_len rs M (0, bs)).2
        refine k T p bp q m rs bs (pre ++ [last]) H4 npH nbH nqH pbp nbq npq gT ⟨⟨_, sT _ _ gp3, hr3.tk (Tk.sm sT)⟩, sT _ _ gb3, ⟨_, sT _ _ gq, hx.tk (Tk.sm sT)⟩⟩ ⟨hg, hbl, hbc, StopsR.of hrun hst, by rw [← hrun]; exact hlen⟩ (Kp.trans k3 (Kp.of sT)) (b3.sm sT)
      · exact ⟨_, _, _, _, _, _, rfl, b3, k3, .inr ⟨m, bp, bs, rfl, rfl, nbH, gb3, hbl, hg.b1, hg.b5, hbc⟩⟩
    · rintro σ' H' ⟨x2, x3, x4, x5, x6, x7, rfl, hb, hk, h0 | ⟨m, bp, bs, rfl, rfl, nb, gb, hl, m1, m5, hc⟩⟩
      · cases h0
      repeat' (tm_at "rs")
      rename_i A H1 nA sA gA P H2 nP sP gP C H3 nC sC gC D H4 nD sD gD E1 H5 nE sE gE T H6 nT sT gT
      have Pb : P ≠ b := ne_newB nP (hb.sm sA)
      have Eb : E1 ≠ b := ne_newB nE (hb.sm (sA.trans (sP.trans (sC.trans sD))))
      have nPH : H P = none := kp_free (Kp.trans hk (Kp.of sA)) Pb nP
      have nEH : H E1 = none := kp_free (Kp.trans hk (Kp.of (sA.trans (sP.trans (sC.trans sD))))) Eb nE
      have s26 := sC.trans (sD.trans (sE.trans sT))
      have s16 := sP.trans s26
      have s06 := sA.trans s16
      have hg : Prg m [Rw.st] := ⟨m1, m5, fun r hr => by rw [List.mem_singleton.mp hr]; trivial, by decide, [], .st, rfl, trivial⟩
      have bP : P ≠ bp := (ne_of_none (sA _ _ gb) nP).symm
      have bE : bp ≠ E1 := ne_of_none ((sA.trans (sP.trans (sC.trans sD))) _ _ gb) nE
      have PE' : P ≠ E1 := ne_of_none ((sC.trans sD) _ _ gP) nE
      have hrun : runL [Rw.st] 0 (0, bs) = [] ++ [(0, bs)] := rfl
      refine k T P bp E1 m [.st] bs ([] ++ [(0, bs)]) H6 nPH nb nEH bP bE PE' gT ⟨⟨_, s26 _ _ gP, .cons ⟨A, rfl, s16 _ _ gA⟩ .nil⟩, s06 _ _ gb, ⟨_, sT _ _ gE, .cons ⟨D, C, rfl, (sE.trans sT) _ _ gD, (sD.trans (sE.trans sT)) _ _ gC⟩ .nil⟩⟩ ⟨hg, hl, hc, StopsR.of hrun rfl, by show 1 ≤ M + 1; omega⟩ (Kp.trans hk (Kp.of s06)) (hb.sm s06)
/-! ### _law_asked -/
theorem ok_f_law_asked {f : Addr} {fd : FuncData} (F : Fun K "_law_asked" "_law_asked" s_f_law_asked f fd)
    (m_range : mg "range" = none)
    (m_enumerate : mg "enumerate" = none) :
    FnG P w K mg base CX0 1 f fd ["boxes", "rows"] (sp_f_law_asked K) := by
  refine okG F sc_f_law_asked (fun vs H Q E h => ?_) (fun cdv A outer s H vs Q E hr h => ⟨_, (pss_cons (ps_set (i := 2) sc_f_law_asked.nd rfl (by first | exact Or.inl rfl | exact Or.inr rfl) (pe_lst pa_nil))
    (pss_cons (ps_for PassesOwn.never rfl (pi_range1 (by rfl) m_range (pa_cons (pv 0) pa_nil)) (pg_name (i := 3) sc_f_law_asked.nd rfl (by first | exact Or.inl rfl | exact Or.inr rfl)) (pss_one (ps_if (pt_cmpR (op_gNe (K := K) rfl hr.units) (pe_lc (own := _) rfl sc_f_law_asked.nd (pi_enum (by rfl) m_enumerate (pa_cons (pv 1) pa_nil)) (blkOk_by (own := [("k", 4), ("row", 5)]) (N := ["boxes", "rows", "found", "j", "k", "row"]) (sc := defScope s_f_law_asked) (by decide +kernel)) (fun _ _ _ _ _ => (pg_gt (K := K) (n := 2) rfl rfl (pgs_cons (pg_name (i := 4) sc_f_law_asked.nd rfl (by first | exact Or.inl rfl | exact Or.inr rfl)) (pgs_cons (pg_name (i := 5) sc_f_law_asked.nd rfl (by first | exact Or.inl rfl | exact Or.inr rfl)) pgs_nil)))) (fun _ _ _ _ _ => pts_one (PW.pt (pw_and (pt_cmpR (op_gEq (K := K) rfl hr.units) (pe_slice (sl_gl (K := K) rfl) (pv 5) po_none (po_some pe_int)) (pe_tup (pa_cons pe_str (pa_cons (pv 3) pa_nil))) (nomark _)) (pw_and1 (pt_cmpR (op_gNe (K := K) rfl hr.units) (pe_ix (ix_g (K := K) rfl) (pv 5) pe_int (fun _ _ => rfl)) (pe_op (op_gAdd (K := K) rfl) (pv 4) pe_int) (nomark _)))))) (fun _ _ _ _ _ => (pv 4))) (pe_lst pa_nil) (nomark _)) (pss_one (ps_expr (pe_gbm (K := K) rfl PySem.F.plainAttrs_list PySem.F.slot_list_append PySem.F.type_list_append mt_append (pv 2) (pa_cons (pv 3) pa_nil)))) pss_nil)))
    (pss_one (ps_ret (pv 2))))), ?_⟩)
  · obtain ⟨_, _, _, _, rfl, _⟩ := h
    rfl
  · obtain ⟨m, p, us, rs, rfl, hp, hR, hm, hl, k⟩ := h
    try dsimp only [cxOf, Cx.nox, Cx.wish]
    change (_ : L2.TS) _ [some (.int (m : Nat)), some (.ref p), none, none, none, none] _
    refine w_start ?_
    repeat' (tm_at "rs")
    rename_i D H1 nD s1 gD
    have hp1 := s1 _ _ hp
    have nDp : p ≠ D := ne_of_none hp nD
    have hul : us.length = rs.length := paired_len hR
    refine loopR (fun j σ' H' => ∃ (x4 x5 x3 : Option V), σ' = [some (.int (m : Nat)), some (.ref p), some (.ref D), x3, x4, x5] ∧ Kp D H1 H' ∧ H' D = some (.lst (nV ((List.range j).filter fun j => askB rs j rs.length)))) ?_ ?_ ?_
    · exact ⟨_, _, _, rfl, Kp.refl _, gD⟩
    · rintro j σ' H' hj ⟨x4, x5, x3, rfl, hk, hD⟩
      have hpj := hk _ _ nDp hp1
      have tkj : Tk H1 H' := Tk.kp gD hk
      have hRj : RwsAt H' us rs := hR.tk ((Tk.sm s1).trans tkj)
      have hfl : ((List.range j).filter fun j => askB rs j rs.length).length ≤ 10 := by
        have := List.length_filter_le (fun j => askB rs j rs.length) (List.range j)
        rw [List.length_range] at this
        omega
      have hnl : (nV ((List.range j).filter fun j => askB rs j rs.length)).length ≤ 10 := by rw [nV_len]; exact hfl
      repeat' (tm_at "rs")
      refine lcEn (xs := us) (fun L i H2 => H2 L = some (.lst (nV ((List.range i).filter fun k => isAsk rs j k))) ∧ Sm H' H2) ?_ ?_ ?_ ?_
      · exact fun L H2 nL sm hL => ⟨hL, sm⟩
      · exact fun L i H2 nL hi h => sq_of (h.2 _ _ hpj)
      · rintro L i x T H2 H3 nL hi hx ⟨hL, hs⟩ nT sT gT
        obtain ⟨r, hri, q, rfl, hq⟩ := paired_get hRj hx
        have hq3 := sT _ _ (hs _ _ hq)
        have hL3 := sT _ _ hL
        have hll : (nV ((List.range i).filter fun k => isAsk rs j k)).length ≤ 100 := by
          rw [nV_len]
          have := List.length_filter_le (fun k => isAsk rs j k) (List.range i)
          rw [List.length_range] at this
          omega
        repeat' (tm_at "rs")
        rename_i b1 H4 s4 g4 b2 H5 n5 s5 g5
        have g5' : H5 b2 = some (.tup [.str "if", .int (j : Int)]) := by
          rw [Int.zero_add] at g5
          exact g5
        have hL5 := (s4.trans s5) _ _ hL3
        have hq5 := (s4.trans s5) _ _ hq3
        have s25 := sT.trans (s4.trans s5)
        refine w_eqAsk (s5 _ _ g4) g5' (fun c hc => ?_)
        rcases r with j' | j' | ⟨j', g'⟩ | g' | _
        · obtain rfl : c = false := hc
          repeat' (tm_at "rs")
          refine ⟨?_, hs.trans s25⟩
          rw [flt_succ, isAsk_no hri (by intro i g z; cases z), if_neg Bool.false_ne_true, List.append_nil]
          exact hL5
        · obtain rfl : c = false := hc
          repeat' (tm_at "rs")
          refine ⟨?_, hs.trans s25⟩
          rw [flt_succ, isAsk_no hri (by intro i g z; cases z), if_neg Bool.false_ne_true, List.append_nil]
          exact hL5
        · obtain rfl : c = decide (j' = j) := hc
          have hq6 : H5 q = some (.tup [.str "if", .int (j' : Int), .int (g' : Int)]) := hq5
          clear hq5
          repeat' (tm_at "rs")
          · rename_i e1 e2 H6 k6 g6
            refine ⟨?_, by tm_at "rsm"⟩
            rw [flt_succ, isAsk_br hri, decide_eq_true e1, decide_eq_true (p := g' ≠ i + 1) (by omega)]
            show H6 L = some (.lst (nV ((List.range i).filter (fun k => isAsk rs j k) ++ [i])))
            rw [nV_app]
            exact g6
          · rename_i e1 e2
            refine ⟨?_, hs.trans s25⟩
            rw [flt_succ, isAsk_br hri, decide_eq_false (p := g' ≠ i + 1) (by omega), Bool.and_false, if_neg Bool.false_ne_true, List.append_nil]
            exact hL5
          · rename_i e1
            refine ⟨?_, hs.trans s25⟩
            rw [flt_succ, isAsk_br hri, decide_eq_false e1, Bool.false_and, if_neg Bool.false_ne_true, List.append_nil]
            exact hL5
        · obtain rfl : c = false := hc
          repeat' (tm_at "rs")
          refine ⟨?_, hs.trans s25⟩
          rw [flt_succ, isAsk_no hri (by intro i g z; cases z), if_neg Bool.false_ne_true, List.append_nil]
          exact hL5
        · obtain rfl : c = false := hc
          repeat' (tm_at "rs")
          refine ⟨?_, hs.trans s25⟩
          rw [flt_succ, isAsk_no hri (by intro i g z; cases z), if_neg Bool.false_ne_true, List.append_nil]
          exact hL5
      · rintro L H2 nL ⟨hL, hs⟩
        rw [hul] at hL
        have hD2 := hs _ _ hD
        repeat' (tm_at "rs")
        · rename_i L2 H3 n3 s3 g3 e H4 k4 g4
          refine ⟨_, _, _, rfl, Kp.trans hk (Kp.trans (Kp.of (hs.trans s3)) k4), ?_⟩
          rw [flt_succ, if_pos (ask_ne.mp e), nV_app]
          rw [Int.zero_add] at g4
          exact g4
        · rename_i L2 H3 n3 s3 g3 e
          refine ⟨_, _, _, rfl, Kp.trans hk (Kp.of (hs.trans s3)), ?_⟩
          rw [flt_succ, if_neg (fun z => e (ask_ne.mpr z)), List.append_nil]
          exact s3 _ _ hD2
    · rintro σ' H' ⟨x4, x5, x3, rfl, hk, hD⟩
      repeat' (tm_at "rs")
      have sm := sm_mut s1 nD hk
      exact k D H' nD sm (by rw [Int.toNat_natCast] at hD; exact hD)
/-! ### _law_answer -/
theorem ok_f_law_answer {f : Addr} {fd : FuncData} (F : Fun K "_law_answer" "_law_answer" s_f_law_answer f fd)
    (D_f_law_asked : Def P w K mg base CX0 "_law_asked" 1 ["boxes", "rows"] (sp_f_law_asked K))
    (m_range : mg "range" = none)
    (m_sum : mg "sum" = none)
    (m_len : mg "len" = none)
    (m_dict : mg "dict" = none)
    (m_list : mg "list" = none)
    (m_str : mg "str" = none)
    (m_zip : mg "zip" = none)
    (m_enumerate : mg "enumerate" = none) :
    FnG P w K mg base CX0 2 f fd ["boxes", "rows", "begin", "stands", "c"] (sp_f_law_answer K) := by
  refine okG F sc_f_law_answer (fun vs H Q E h => ?_) (fun cdv A outer s H vs Q E hr h => ⟨_, (pss_cons (ps_set (i := 5) sc_f_law_answer.nd rfl (by first | exact Or.inl rfl | exact Or.inr rfl) (pe_op op_sub (pe_callB (call_gLen (K := K) rfl) (by rfl) m_len PySem.boot_len (pa_cons (pv 3) pa_nil)) pe_int))
    (pss_cons (ps_set (i := 6) sc_f_law_answer.nd rfl (by first | exact Or.inl rfl | exact Or.inr rfl) pe_dnewK)
    (pss_cons (ps_for PassesOwn.never rfl (pi_range1 (by rfl) m_range (pa_cons (pv 0) pa_nil)) (pg_name (i := 7) sc_f_law_answer.nd rfl (by first | exact Or.inl rfl | exact Or.inr rfl)) (pss_one (ps_dput (u_one hr.units) (pv 6) (pe_op (op_gAdd (K := K) rfl) pe_str (pe_callTy call_gStr2 (by rfl) m_str PyProof.Rows.boot_str (pa_cons (pv 7) pa_nil))) (pe_ix (ix_g (K := K) rfl) (pv 2) (pv 7) (fun _ _ => rfl)) rfl)))
    (pss_cons (ps_for PassesOwn.never rfl (pi_range1 (by rfl) m_range (pa_cons (pv 0) pa_nil)) (pg_name (i := 7) sc_f_law_answer.nd rfl (by first | exact Or.inl rfl | exact Or.inr rfl)) (pss_one (ps_dput (u_one hr.units) (pv 6) (pe_op (op_gAdd (K := K) rfl) pe_str (pe_callTy call_gStr2 (by rfl) m_str PyProof.Rows.boot_str (pa_cons (pv 7) pa_nil))) (pe_ix (ix_g (K := K) rfl) (pe_ix (ix_g (K := K) rfl) (pe_ix (ix_g (K := K) rfl) (pv 3) (pe_un un_neg pe_int) (fun _ _ => rfl)) pe_int (fun _ _ => rfl)) (pv 7) (fun _ _ => rfl)) rfl)))
    (pss_cons (ps_par (i := 8) (j := 9) rfl sc_f_law_answer.nd rfl rfl (by decide) rfl rfl (pa_cons (pe_op op_gShl pe_int (pe_op op_sub (pv 4) pe_int)) (pa_cons (pe_op op_gShl pe_int (pv 4)) pa_nil)) (by rfl))
    (pss_cons (ps_set (i := 10) sc_f_law_answer.nd rfl (by first | exact Or.inl rfl | exact Or.inr rfl) (pe_callB (cr_sum rfl) (by rfl) m_sum (by decide +kernel) (pa_cons (pe_lc (own := _) rfl sc_f_law_answer.nd (pi_range1 (by rfl) m_range (pa_cons (pe_op (op_gAdd (K := K) rfl) (pv 5) pe_int) pa_nil)) (blkOk_by (own := [("t", 11)]) (N := ["boxes", "rows", "begin", "stands", "c", "s", "found", "j", "h", "q", "i", "t", "some", "k", "contents", "stand"]) (sc := defScope s_f_law_answer) (by decide +kernel)) (fun _ _ _ _ _ => (pg_name (i := 11) sc_f_law_answer.nd rfl (by first | exact Or.inl rfl | exact Or.inr rfl))) (fun _ _ _ _ _ => pts_nil) (fun _ _ _ _ _ => (pe_op op_gShl pe_int (pe_op op_gMul (pv 4) (pv 11))))) pa_nil)))
    (pss_cons (ps_set (i := 12) sc_f_law_answer.nd rfl (by first | exact Or.inl rfl | exact Or.inr rfl) (pe_lst (pa_cons (pv 5) (pa_cons (pv 4) (pa_cons (pv 8) (pa_cons (pe_op op_sub (pe_op op_sub (pv 8) (pe_callB (cr_sum rfl) (by rfl) m_sum (by decide +kernel) (pa_cons (pv 2) pa_nil))) pe_int) (pa_cons (pv 9) (pa_cons (pe_op op_sub (pe_op op_sub (pv 9) (pe_callB (call_gLen (K := K) rfl) (by rfl) m_len PySem.boot_len (pa_cons (pv 1) pa_nil))) pe_int) (pa_cons (pv 10) (pa_cons (pe_op op_gMul (pe_op op_sub (pv 8) pe_int) (pv 10)) pa_nil))))))))))
    (pss_cons (ps_expr (pe_gbm (K := K) rfl PySem.F.plainAttrs_dict PySem.F.slot_dict_update PySem.F.type_dict_update mtd_update (pv 6) (pa_cons (pe_callTy (call_gDictP (K := K) rfl rfl) (by rfl) m_dict PyProof.Rows.boot_dict (pa_cons (pe_listZip (K := K) rfl rfl (by rfl) m_list (by rfl) m_zip (pa_cons (pe_lst (pa_cons pe_str (pa_cons pe_str (pa_cons pe_str (pa_cons pe_str (pa_cons pe_str (pa_cons pe_str (pa_cons pe_str (pa_cons pe_str pa_nil))))))))) (pa_cons (pv 12) pa_nil))) pa_nil)) pa_nil)))
    (pss_cons (ps_for PassesOwn.never rfl (pi_range1 (by rfl) m_range (pa_cons (pv 0) pa_nil)) (pg_name (i := 7) sc_f_law_answer.nd rfl (by first | exact Or.inl rfl | exact Or.inr rfl)) (pss_one (ps_dput (u_one hr.units) (pv 6) (pe_op (op_gAdd (K := K) rfl) pe_str (pe_callTy call_gStr2 (by rfl) m_str PyProof.Rows.boot_str (pa_cons (pv 7) pa_nil))) (pe_callB (cr_sum rfl) (by rfl) m_sum (by decide +kernel) (pa_cons (pe_lc (own := _) rfl sc_f_law_answer.nd (pi_enum (by rfl) m_enumerate (pa_cons (pv 3) pa_nil)) (blkOk_by (own := [("t", 11), ("k", 13), ("contents", 14)]) (N := ["boxes", "rows", "begin", "stands", "c", "s", "found", "j", "h", "q", "i", "t", "some", "k", "contents", "stand"]) (sc := defScope s_f_law_answer) (by decide +kernel)) (fun _ _ _ _ _ => (pg_gt (K := K) (n := 2) rfl rfl (pgs_cons (pg_name (i := 11) sc_f_law_answer.nd rfl (by first | exact Or.inl rfl | exact Or.inr rfl)) (pgs_cons (pg_gt (K := K) (n := 2) rfl rfl (pgs_cons (pg_name (i := 13) sc_f_law_answer.nd rfl (by first | exact Or.inl rfl | exact Or.inr rfl)) (pgs_cons (pg_name (i := 14) sc_f_law_answer.nd rfl (by first | exact Or.inl rfl | exact Or.inr rfl)) pgs_nil))) pgs_nil)))) (fun _ _ _ _ _ => pts_nil) (fun _ _ _ _ _ => (pe_op op_gShl (pe_ix (ix_g (K := K) rfl) (pv 14) (pv 7) (fun _ _ => rfl)) (pe_op op_gMul (pv 4) (pv 11))))) pa_nil)) rfl)))
    (pss_cons (ps_for PassesOwn.never rfl (pi_range1 (by rfl) m_range (pa_cons (pe_callB (call_gLen (K := K) rfl) (by rfl) m_len PySem.boot_len (pa_cons (pv 1) pa_nil)) pa_nil)) (pg_name (i := 13) sc_f_law_answer.nd rfl (by first | exact Or.inl rfl | exact Or.inr rfl)) (pss_one (ps_dput (u_one hr.units) (pv 6) (pe_op (op_gAdd (K := K) rfl) pe_str (pe_callTy call_gStr2 (by rfl) m_str PyProof.Rows.boot_str (pa_cons (pv 13) pa_nil))) (pe_callB (cr_sum rfl) (by rfl) m_sum (by decide +kernel) (pa_cons (pe_lc (own := _) rfl sc_f_law_answer.nd (pi_enum (by rfl) m_enumerate (pa_cons (pv 3) pa_nil)) (blkOk_by (own := [("t", 11), ("stand", 15)]) (N := ["boxes", "rows", "begin", "stands", "c", "s", "found", "j", "h", "q", "i", "t", "some", "k", "contents", "stand"]) (sc := defScope s_f_law_answer) (by decide +kernel)) (fun _ _ _ _ _ => (pg_gt (K := K) (n := 2) rfl rfl (pgs_cons (pg_name (i := 11) sc_f_law_answer.nd rfl (by first | exact Or.inl rfl | exact Or.inr rfl)) (pgs_cons (pg_name (i := 15) sc_f_law_answer.nd rfl (by first | exact Or.inl rfl | exact Or.inr rfl)) pgs_nil)))) (fun _ _ _ _ _ => pts_one (pt_cmpR (op_gEq (K := K) rfl hr.units) (pe_ix (ix_g (K := K) rfl) (pv 15) pe_int (fun _ _ => rfl)) (pv 13) (nomark _))) (fun _ _ _ _ _ => (pe_op op_gShl pe_int (pe_op op_gMul (pv 4) (pv 11))))) pa_nil)) rfl)))
    (pss_cons (ps_for PassesOwn.never rfl (pi_gl (K := K) rfl (pe_f D_f_law_asked (hr.mono (by omega)) (by rfl) pass0 (pa_cons (pv 0) (pa_cons (pv 1) pa_nil)))) (pg_name (i := 7) sc_f_law_answer.nd rfl (by first | exact Or.inl rfl | exact Or.inr rfl)) (pss_one (ps_dput (u_one hr.units) (pv 6) (pe_op (op_gAdd (K := K) rfl) pe_str (pe_callTy call_gStr2 (by rfl) m_str PyProof.Rows.boot_str (pa_cons (pv 7) pa_nil))) (pe_op op_sub (pe_op op_gMul (pv 9) (pv 10)) (pe_op op_gMul pe_int (pe_dget (u_one hr.units) (pv 6) (pe_op (op_gAdd (K := K) rfl) pe_str (pe_callTy call_gStr2 (by rfl) m_str PyProof.Rows.boot_str (pa_cons (pv 7) pa_nil))) (fun _ _ => rfl)))) rfl)))
    (pss_one (ps_ret (pv 6)))))))))))))), ?_⟩)
  · obtain ⟨_, _, _, _, _, _, _, _, _, _, _, _, _, rfl, _⟩ := h
    rfl
  · obtain ⟨m, c, p, b, q, us, xs, rs, bs, ys, ss, k0, pre, rfl, hp, hR, hg, hb, hbl, hq, hX, hss, hsl, hsn, c1, c2, hbd, k⟩ := h
    try dsimp only [cxOf, Cx.nox, Cx.wish]
    change (_ : L2.TS) _ [some (.int (m : Nat)), some (.ref p), some (.ref b), some (.ref q), some (.int (c : Nat)), none, none, none, none, none, none, none, none, none, none, none] _
    refine w_start ?_
    have hm5 := hg.b5
    have hm1 := hg.b1
    have hl14 := hg.len
    have hX2 : SdL H xs (pre ++ [(k0, ys)]) := hss ▸ hX
    obtain ⟨xs0, x0, hxe, hxs0, hx0⟩ := paired_last hX2
    obtain ⟨p0, q0, rfl, hp0, hq0⟩ := id hx0
    have hatL : atI xs (-1) = some (V.ref p0) := by rw [hxe]; exact atI_last xs0 (V.ref p0)
    have hxl : xs.length = ss.length := paired_len hX
    have hpre : ss.length = pre.length + 1 := by rw [hss, List.length_append]; rfl
    have hbV : (nV bs).length = m := by rw [nV_len, hbl]
    have hyl : ys.length = m := hsl (k0, ys) (by rw [hss]; simp)
    have hyV : (nV ys).length = m := by rw [nV_len, hyl]
    repeat' (tm_at "rs")
    rename_i D H1 nD sD gD
    have rng : ∀ (f : Nat → Key × V) (i : Nat), (List.range (i + 1)).map f = (List.range i).map f ++ [f i] := fun f i => by rw [List.range_succ, List.map_append]; rfl
    have smk : ∀ H', Kp D H1 H' → Sm H H' := fun H' hk x o h => hk x o (fun e => by rw [e, nD] at h; cases h) (sD _ _ h)
    refine loopR (fun i σ' H' => ∃ (x7 : Option V), σ' = [some (.int (m : Nat)), some (.ref p), some (.ref b), some (.ref q), some (.int (c : Nat)), some (.int ((xs.length : Int) - 1)), some (.ref D), x7, none, none, none, none, none, none, none, none] ∧ Kp D H1 H' ∧ H' D = some (.dK (mergeK [] (anX i bs)))) ?_ ?_ ?_
    · exact ⟨_, rfl, Kp.refl _, gD⟩
    · rintro i σ' H' hi ⟨x7, rfl, hk, hd⟩
      have hi2 : i < m := by simpa using hi
      have hb2 := smk _ hk _ _ hb
      have hkl : (mergeK [] (anX i bs)).length ≤ 100 := by
        have h1 := merge_len (anX i bs) []
        have e : (anX i bs).length = i := by unfold anX; rw [List.length_map, List.length_range]
        have e0 : ([] : List (Key × V)).length = 0 := rfl
        omega
      have hat := nV_at (cs := bs) (j := i) (by omega)
      rw [show (0 + (i : Int)) = (i : Int) from Int.zero_add _]
      repeat' (tm_at "rs")
      rename_i H3 k3 g3
      refine ⟨_, rfl, Kp.trans hk k3, ?_⟩
      rw [g3]
      unfold anX
      rw [rng, merge_snoc]
      rfl
    · rintro σ' H' ⟨x7, rfl, hk, hd⟩
      rw [show (((m : Nat) : Int)).toNat = m from rfl] at hd
      repeat' (tm_at "rs")
      refine loopR (fun i σ' H' => ∃ (x7 : Option V), σ' = [some (.int (m : Nat)), some (.ref p), some (.ref b), some (.ref q), some (.int (c : Nat)), some (.int ((xs.length : Int) - 1)), some (.ref D), x7, none, none, none, none, none, none, none, none] ∧ Kp D H1 H' ∧ H' D = some (.dK (mergeK [] (anX m bs ++ anY i ys)))) ?_ ?_ ?_
      · refine ⟨_, rfl, hk, ?_⟩
        rw [hd]
        show _ = some (HO.dK (mergeK [] (anX m bs ++ [])))
        rw [List.append_nil]
      · rintro i σ' H' hi ⟨x7, rfl, hk, hd⟩
        have hi2 : i < m := by simpa using hi
        have hq2 := smk _ hk _ _ hq
        have hp2 := smk _ hk _ _ hp0
        have hy2 := smk _ hk _ _ hq0
        have hkl : (mergeK [] (anX m bs ++ anY i ys)).length ≤ 100 := by
          have h1 := merge_len (anX m bs ++ anY i ys) []
          have e : (anX m bs ++ anY i ys).length = m + i := by unfold anX anY; rw [List.length_append, List.length_map, List.length_range, List.length_map, List.length_range]
          have e0 : ([] : List (Key × V)).length = 0 := rfl
          omega
        have hat := nV_at (cs := ys) (j := i) (by omega)
        rw [show (0 + (i : Int)) = (i : Int) from Int.zero_add _]
        repeat' (tm_at "rs")
        rename_i H3 k3 g3
        refine ⟨_, rfl, Kp.trans hk k3, ?_⟩
        rw [g3]
        unfold anY
        rw [rng, ← List.append_assoc, merge_snoc]
        rfl
      · rintro σ' H' ⟨x7, rfl, hk, hd⟩
        rw [show (((m : Nat) : Int)).toNat = m from rfl] at hd
        have hsE : ((xs.length : Int) - 1 + 1).toNat = ss.length := by omega
        have hhE : ((c : Int) - 1).toNat = c - 1 := by omega
        repeat' (tm_at "rs")
        rename_i hv hv1 hv2 hv3 hv4 hv5 qv qv1 qv2 qv3 qv4 qv5
        rw [hsE]
        rw [hhE] at hv1
        rw [show ((c : Nat) : Int).toNat = c from rfl] at qv1
        refine lcR (fun A i H2 => H2 A = some (.lst (((List.range i).map fun t => (2 : Int) ^ (c * t)).map V.int)) ∧ Sm H' H2) (fun A H2 nA sm hA => ⟨hA, sm⟩) ?_ ?_
        · rintro A i H2 nA hi ⟨hA, sm⟩
          have hct : (c : Int) * (i : Int) ≤ 1000000 := by
            have h1 : c * i ≤ 1000 * 402 := Nat.mul_le_mul c2 (by omega)
            have h2 : ((c * i : Nat) : Int) ≤ ((1000 * 402 : Nat) : Int) := by exact_mod_cast h1
            rw [Int.natCast_mul] at h2
            omega
          have hct0 : 0 ≤ (c : Int) * (i : Int) := Int.mul_nonneg (by omega) (by omega)
          rw [show (0 + (i : Int)) = (i : Int) from Int.zero_add _]
          have hz : (((List.range i).map fun t => (2 : Int) ^ (c * t)).map V.int).length ≤ 1000 := by rw [List.length_map, List.length_map, List.length_range]; omega
          repeat' (tm_at "rs")
          rename_i tv tv1 tv2 tv3 tv4 tv5 H3 k3 g3
          refine ⟨?_, by tm_at "rsm"⟩
          rw [g3, List.range_succ, List.map_append, List.map_append, tv1, show ((c : Int) * (i : Int)).toNat = c * i by rw [← Int.natCast_mul]; rfl]
          rfl
        · rintro A H2 nA ⟨hA, sm⟩
          have hk2 : Kp D H1 H2 := fun x o hx e => sm _ _ (hk x o hx e)
          have hd2 := sm _ _ hd
          have hb2 := smk _ hk2 _ _ hb
          have hp2 := smk _ hk2 _ _ hp
          repeat' (tm_at "rs")
          refine w_sum (ns := bs.map fun x : Nat => (x : Int)) (sq_of (by rw [hb2, nV_int])) ?_
          rw [sum_cast]
          repeat' (tm_at "rs")
          have hcn : c * ss.length ≤ 1000000 := Nat.le_trans (Nat.mul_le_mul c2 hsn) (by decide)
          rw [show (((List.range ss.length).map fun t => (2 : Int) ^ (c * t)).sum : Int) = iS c ss.length from rfl]
          have hv6 : (hv - 1).natAbs < 2 ^ 1001 := by
            rw [hv1]
            exact Nat.lt_of_lt_of_le (pow_less c) (Nat.pow_le_pow_right (by decide) (by omega))
          refine w_mulI (iS_cm c1 hcn hv6) ?_
          repeat' (tm_at "rs")
          rename_i S H3 nS s3 gS N H4 nN s4 gN
          have gS4 := s4 _ _ gS
          have kq : (an8 c ss.length rs.length bs.sum).map (fun q => kV q.1) = [V.str (Str.ofString "s"), V.str (Str.ofString "c"), V.str (Str.ofString "h"), V.str (Str.ofString "d"), V.str (Str.ofString "q"), V.str (Str.ofString "g"), V.str (Str.ofString "i"), V.str (Str.ofString "m")] := rfl
          have vq : (an8 c ss.length rs.length bs.sum).map (fun q => q.2) = [V.int (↑xs.length - 1), V.int ↑c, V.int hv, V.int (hv - ↑bs.sum - 1), V.int qv, V.int (qv - ↑us.length - 1), V.int (iS c ss.length), V.int ((hv - 1) * iS c ss.length)] := by
            rw [hxl, paired_len hR, hv1, qv1]
            rfl
          refine w_lzE (kvs := an8 c ss.length rs.length bs.sum) (sq_of (by rw [gN, kq])) (sq_of (by rw [gS4, vq])) (fun Z ts H5 nZ s5 gZ pZ => ?_)
          repeat' (tm_at "rs")
          refine w_dictP (sq_of gZ) (paired_mono (fun _ _ e => st_of e) pZ) (fun E2 H6 nE s6 gE => ?_)
          rw [an8_self] at gE
          repeat' (tm_at "rs")
          have hd5 := (s5 _ _  (s4 _ _ (s3 _ _ hd2)))
          have hd6 := s6 _ _ hd5
          have hDE : D ≠ E2 := fun e => by rw [e, nE] at hd5; cases hd5
          refine w_dupd hd6 gE hDE ?_ (fun H7 k7 g7 => ?_)
          · have h1 := merge_len (anX m bs ++ anY m ys) []
            have e : (anX m bs ++ anY m ys).length = m + m := by unfold anX anY; rw [List.length_append, List.length_map, List.length_range, List.length_map, List.length_range]
            have e0 : ([] : List (Key × V)).length = 0 := rfl
            have e8 : (an8 c ss.length rs.length bs.sum).length = 8 := rfl
            omega
          rw [← merge_app] at g7
          obtain ⟨B, hB⟩ : ∃ B, B = anX m bs ++ anY m ys ++ an8 c ss.length rs.length bs.sum := ⟨_, rfl⟩
          have hBl : B.length = m + m + 8 := by
            rw [hB, List.length_append, List.length_append]
            unfold anX anY
            rw [List.length_map, List.length_range, List.length_map, List.length_range]
            rfl
          rw [← hB] at g7
          have hk7 : Kp D H1 H7 := fun x o hx e => k7 x o hx (s6 _ _ (s5 _ _ (s4 _ _ (s3 _ _ (hk2 x o hx e)))))
          repeat' (tm_at "rs")
          refine loopR (fun i σ' H' => ∃ (x7 : Option V), σ' = [some (.int (m : Nat)), some (.ref p), some (.ref b), some (.ref q), some (.int (c : Nat)), some (.int ((xs.length : Int) - 1)), some (.ref D), x7, some (.int hv), some (.int qv), some (.int (iS c ss.length)), none, some (.ref S), none, none, none] ∧ Kp D H1 H' ∧ H' D = some (.dK (mergeK [] (B ++ (List.range i).map fun j => kvE (nmS "r" j) (rS c ss j))))) ?_ ?_ ?_
          · refine ⟨_, rfl, hk7, ?_⟩
            rw [g7]
            show _ = some (HO.dK (mergeK [] (B ++ [])))
            rw [List.append_nil]
          · rintro i σ' H8 hi ⟨x7, rfl, hk8, hd8⟩
            have hi2 : i < m := by simpa using hi
            have hq8 := smk _ hk8 _ _ hq
            have hX8 := hX.tk (Tk.sm (smk _ hk8))
            have hkl : (mergeK [] (B ++ (List.range i).map fun j => kvE (nmS "r" j) (rS c ss j))).length ≤ 100 := by
              have h1 := merge_len (B ++ (List.range i).map fun j => kvE (nmS "r" j) (rS c ss j)) []
              rw [List.length_append, List.length_map, List.length_range] at h1
              have e0 : ([] : List (Key × V)).length = 0 := rfl
              omega
            rw [show (0 + (i : Int)) = (i : Int) from Int.zero_add _]
            repeat' (tm_at "rs")
            refine lcEn (xs := xs) (fun A t H9 => H9 A = some (.lst (((List.range t).map fun t => (cell ss t i : Int) * 2 ^ (c * t)).map V.int)) ∧ Sm H8 H9) (fun A H9 nA sm hA => ⟨hA, sm⟩) (fun A t H9 nA ht h => sq_of (h.2 _ _ hq8)) ?_ ?_
            · rintro A t x T H9 H10 nA ht hx ⟨hA, sm9⟩ nT s10 gT
              obtain ⟨s, hs, u, v, rfl, gu, gv⟩ := paired_get hX8 hx
              have gu' := s10 _ _ (sm9 _ _ gu)
              have gv' := s10 _ _ (sm9 _ _ gv)
              have hA' := s10 _ _ hA
              have hsm := List.mem_of_getElem? hs
              have hat := nV_at (cs := s.2) (j := i) (by rw [hsl s hsm]; exact hi2)
              have hct : (c : Int) * (t : Int) ≤ 1000000 := by
                have h1 : c * t ≤ 1000 * 402 := Nat.mul_le_mul c2 (by omega)
                have h2 : ((c * t : Nat) : Int) ≤ ((1000 * 402 : Nat) : Int) := by exact_mod_cast h1
                rw [Int.natCast_mul] at h2
                omega
              have hct0 : 0 ≤ (c : Int) * (t : Int) := Int.mul_nonneg (by omega) (by omega)
              have hz : (((List.range t).map fun t => (cell ss t i : Int) * 2 ^ (c * t)).map V.int).length ≤ 1000 := by rw [List.length_map, List.length_map, List.length_range]; omega
              have hil : i < s.2.length := by rw [hsl s hsm]; exact hi2
              have hcb : s.2.getD i 0 ≤ 2 ^ 100 := hbd s hsm _ (by rw [List.getD_eq_getElem?_getD, List.getElem?_eq_getElem hil]; exact List.getElem_mem _)
              repeat' (tm_at "rs")
              refine w_shlI (shl_cell hcb hct0 hct) ?_
              refine w_lcEnd hA' (Nat.lt_of_le_of_lt hz (by decide)) (fun H11 k11 g11 => ⟨?_, by tm_at "rsm"⟩)
              rw [g11, List.range_succ, List.map_append, List.map_append, show ((c : Int) * (t : Int)).toNat = c * t by rw [← Int.natCast_mul]; rfl]
              have hce : cell ss t i = s.2.getD i 0 := by unfold cell; rw [hs]
              rw [List.map_singleton, List.map_singleton, hce]
            · rintro A H9 nA ⟨hA, sm9⟩
              have hd9 := sm9 _ _ hd8
              rw [show (((List.range xs.length).map fun t => (cell ss t i : Int) * 2 ^ (c * t)).map V.int) = ((List.range ss.length).map fun t => (cell ss t i : Int) * 2 ^ (c * t)).map V.int by rw [hxl]] at hA
              repeat' (tm_at "rs")
              rename_i H10 k10 g10
              refine ⟨_, rfl, fun x o hx e => k10 x o hx (sm9 _ _ (hk8 x o hx e)), ?_⟩
              rw [g10, rng, ← List.append_assoc, merge_snoc]
              rfl
          · rintro σ' H8 ⟨x7, rfl, hk8, hd8⟩
            rw [show (((m : Nat) : Int)).toNat = m from rfl] at hd8
            have hp8 := smk _ hk8 _ _ hp
            have hul : us.length = rs.length := paired_len hR
            rw [show (List.range m).map (fun j => kvE (nmS "r" j) (rS c ss j)) = anR m c ss from rfl] at hd8
            have hCl : (B ++ anR m c ss).length = m + m + 8 + m := by
              unfold anR
              rw [List.length_append, hBl, List.length_map, List.length_range]
            repeat' (tm_at "rs")
            refine loopR (fun i σ' H' => ∃ (x13 : Option V), σ' = [some (.int (m : Nat)), some (.ref p), some (.ref b), some (.ref q), some (.int (c : Nat)), some (.int ((xs.length : Int) - 1)), some (.ref D), x7, some (.int hv), some (.int qv), some (.int (iS c ss.length)), none, some (.ref S), x13, none, none] ∧ Kp D H1 H' ∧ H' D = some (.dK (mergeK [] (B ++ anR m c ss ++ (List.range i).map fun k => kvE (nmS "l" k) (lS c ss k))))) ?_ ?_ ?_
            · refine ⟨_, rfl, hk8, ?_⟩
              rw [hd8]
              show _ = some (HO.dK (mergeK [] (_ ++ [])))
              rw [List.append_nil]
            · rintro i σ' H9 hi ⟨x13, rfl, hk9, hd9⟩
              have hi2 : i < rs.length := by
                rw [← hul]
                simpa using hi
              have hq9 := smk _ hk9 _ _ hq
              have hX9 := hX.tk (Tk.sm (smk _ hk9))
              have hkl : (mergeK [] (B ++ anR m c ss ++ (List.range i).map fun k => kvE (nmS "l" k) (lS c ss k))).length ≤ 100 := by
                have h1 := merge_len (B ++ anR m c ss ++ (List.range i).map fun k => kvE (nmS "l" k) (lS c ss k)) []
                rw [List.length_append, List.length_map, List.length_range, hCl] at h1
                have e0 : ([] : List (Key × V)).length = 0 := rfl
                omega
              rw [show (0 + (i : Int)) = (i : Int) from Int.zero_add _]
              repeat' (tm_at "rs")
              refine lcEn (xs := xs) (fun A t H10 => H10 A = some (.lst ((((List.range t).filter (atR ss i)).map fun t => (2 : Int) ^ (c * t)).map V.int)) ∧ Sm H9 H10) (fun A H10 nA sm hA => ⟨hA, sm⟩) (fun A t H10 nA ht h => sq_of (h.2 _ _ hq9)) ?_ ?_
              · rintro A t x T H10 H11 nA ht hx ⟨hA, sm9⟩ nT s10 gT
                obtain ⟨s, hs, u, v, rfl, gu, gv⟩ := paired_get hX9 hx
                have gu' := s10 _ _ (sm9 _ _ gu)
                have gv' := s10 _ _ (sm9 _ _ gv)
                have hA' := s10 _ _ hA
                have hct : (c : Int) * (t : Int) ≤ 1000000 := by
                  have h1 : c * t ≤ 1000 * 402 := Nat.mul_le_mul c2 (by omega)
                  have h2 : ((c * t : Nat) : Int) ≤ ((1000 * 402 : Nat) : Int) := by exact_mod_cast h1
                  rw [Int.natCast_mul] at h2
                  omega
                have hct0 : 0 ≤ (c : Int) * (t : Int) := Int.mul_nonneg (by omega) (by omega)
                have hz : ((((List.range t).filter (atR ss i)).map fun t => (2 : Int) ^ (c * t)).map V.int).length ≤ 1000 := by
                  have h1 := List.length_filter_le (atR ss i) (List.range t)
                  rw [List.length_range] at h1
                  rw [List.length_map, List.length_map]
                  omega
                have hat : atR ss i t = decide (s.1 = i) := by unfold atR; rw [hs]
                repeat' (tm_at "rs")
                · rename_i tE tv tv1 tv2 tv3 tv4 tv5 H12 k12 g12
                  refine ⟨?_, by tm_at "rsm"⟩
                  rw [g12, List.range_succ, List.filter_append, List.map_append, List.map_append, tv1, show ((c : Int) * (t : Int)).toNat = c * t by rw [← Int.natCast_mul]; rfl, filt1, hat, if_pos (decide_eq_true (show s.1 = i by omega))]
                  rfl
                · rename_i tE
                  refine ⟨?_, by tm_at "rsm"⟩
                  rw [hA', List.range_succ, List.filter_append, filt1, hat, if_neg (fun h => tE (by rw [of_decide_eq_true h])), List.append_nil]
              · rintro A H10 nA ⟨hA, sm9⟩
                have hd10 := sm9 _ _ hd9
                rw [show ((((List.range xs.length).filter (atR ss i)).map fun t => (2 : Int) ^ (c * t)).map V.int) = (((List.range ss.length).filter (atR ss i)).map fun t => (2 : Int) ^ (c * t)).map V.int by rw [hxl]] at hA
                repeat' (tm_at "rs")
                rename_i H11 k10 g10
                refine ⟨_, rfl, fun x o hx e => k10 x o hx (sm9 _ _ (hk9 x o hx e)), ?_⟩
                rw [g10, rng, ← List.append_assoc, merge_snoc]
                rfl
            · rintro σ' H9 ⟨x13, rfl, hk9, hd9⟩
              rw [show (((us.length : Nat) : Int)).toNat = rs.length by omega] at hd9
              rw [show (List.range rs.length).map (fun k => kvE (nmS "l" k) (lS c ss k)) = anL rs.length c ss from rfl] at hd9
              have hp9 := smk _ hk9 _ _ hp
              have hR9 := hR.tk (Tk.sm (smk _ hk9))
              have hDl : (B ++ anR m c ss ++ anL rs.length c ss).length = m + m + 8 + m + rs.length := by
                unfold anL
                rw [List.length_append, hCl, List.length_map, List.length_range]
              repeat' (tm_at "rs")
              refine call_lawAsked hp9 hR9 (by omega) (by omega) (fun A H10 nA s10 gA => ?_)
              have hd10 := s10 _ _ hd9
              have hDA : A ≠ D := fun e => by rw [e, hd9] at nA; cases nA
              have hk10 : Kp D H1 H10 := fun x o hx e => s10 _ _ (hk9 x o hx e)
              repeat' (tm_at "rs")
              have hal : (asked m rs).length ≤ m := asked_len
              refine loopL (xs := nV (asked m rs)) (fun i σ' H' => ∃ (x7 : Option V), σ' = [some (.int (m : Nat)), some (.ref p), some (.ref b), some (.ref q), some (.int (c : Nat)), some (.int ((xs.length : Int) - 1)), some (.ref D), x7, some (.int hv), some (.int qv), some (.int (iS c ss.length)), none, some (.ref S), x13, none, none] ∧ Kp D H1 H' ∧ H' A = some (.lst (nV (asked m rs))) ∧ H' D = some (.dK (mergeK [] (B ++ anR m c ss ++ anL rs.length c ss ++ ((asked m rs).take i).map fun j => kvE (nmS "e" j) (2 ^ c * iS c ss.length - 2 * rS c ss j))))) ?_ ?_ ?_ ?_
              · refine ⟨_, rfl, hk10, gA, ?_⟩
                rw [hd10]
                show _ = some (HO.dK (mergeK [] (_ ++ [])))
                rw [List.append_nil]
              · rintro i σ' H' hi ⟨x7, rfl, hk, hA, hd⟩
                exact sq_of hA
              · rintro i x σ' H11 hi ⟨x7, rfl, hk11, hA11, hd11⟩
                obtain ⟨n, hn, rfl⟩ := nV_gt hi
                have hil := (List.getElem?_eq_some_iff.mp hn).1
                have hnm : n < m := asked_lt n (List.mem_of_getElem? hn)
                have hkl : (mergeK [] (B ++ anR m c ss ++ anL rs.length c ss ++ ((asked m rs).take i).map fun j => kvE (nmS "e" j) (2 ^ c * iS c ss.length - 2 * rS c ss j))).length ≤ 100 := by
                  have h1 := merge_len (B ++ anR m c ss ++ anL rs.length c ss ++ ((asked m rs).take i).map fun j => kvE (nmS "e" j) (2 ^ c * iS c ss.length - 2 * rS c ss j)) []
                  rw [List.length_append, List.length_map, List.length_take, hDl] at h1
                  have e0 : ([] : List (Key × V)).length = 0 := rfl
                  omega
                have hv11 : valV (mergeK [] (B ++ anR m c ss ++ anL rs.length c ss ++ ((asked m rs).take i).map fun j => kvE (nmS "e" j) (2 ^ c * iS c ss.length - 2 * rS c ss j))) (.inr (nmS "r" n)) = some (.int (rS c ss n)) := by
                  rw [List.append_assoc]
                  refine merge_rE hnm (by omega) (fun q hq => ?_)
                  rcases List.mem_append.mp hq with h | h
                  · exact anL_ne q h
                  · exact anE_ne q h
                have hq6 : qv.natAbs < 2 ^ 1001 := by
                  rw [qv1, pow2_nat, Int.natAbs_natCast]
                  exact Nat.pow_lt_pow_right (by decide) (by omega)
                repeat' (tm_at "rs")
                refine w_mulI (iS_cm c1 hcn hq6) ?_
                repeat' (tm_at "rs")
                rename_i H12 k12 g12
                refine ⟨_, rfl, Kp.trans hk11 k12, k12 _ _ hDA hA11, ?_⟩
                rw [g12, List.take_succ, hn, List.map_append, ← List.append_assoc]
                show _ = some (HO.dK (mergeK [] (_ ++ [kvE (nmS "e" n) _])))
                rw [merge_snoc, qv1]
                rfl
              · rintro σ' H11 ⟨x7, rfl, hk11, hA11, hd11⟩
                repeat' (tm_at "rs")
                refine k D H11 nD (smk _ hk11) ?_
                rw [hd11, nV_len, List.take_length, hB]
                rfl
/-! ### _law_named -/
theorem ok_f_law_named {f : Addr} {fd : FuncData} (F : Fun K "_law_named" "_law_named" s_f_law_named f fd)
    (m_str : mg "str" = none) :
    FnG P w K mg base CX0 1 f fd ["letter", "numbers"] (sp_f_law_named K) := by
  refine okG F sc_f_law_named (fun vs H Q E h => ?_) (fun cdv A outer s H vs Q E hr h => ⟨_, (pss_one (ps_ret (pe_lc (own := _) rfl sc_f_law_named.nd (pi_gl (K := K) rfl (pv 1)) (blkOk_by (own := [("k", 2)]) (N := ["letter", "numbers", "k"]) (sc := defScope s_f_law_named) (by decide +kernel)) (fun _ _ _ _ _ => (pg_name (i := 2) sc_f_law_named.nd rfl (by first | exact Or.inl rfl | exact Or.inr rfl))) (fun _ _ _ _ _ => pts_nil) (fun _ _ _ _ _ => (pe_tup (pa_cons pe_str (pa_cons (pe_op (op_gAdd (K := K) rfl) (pv 0) (pe_callTy call_gStrN (by rfl) m_str PyProof.Rows.boot_str (pa_cons (pv 2) pa_nil))) pa_nil))))))), ?_⟩)
  · obtain ⟨_, _, _, rfl, _⟩ := h
    rfl
  · obtain ⟨c, p, l, rfl, hp, hl, hn, hc, k⟩ := h
    try dsimp only [cxOf, Cx.nox, Cx.wish]
    change (_ : L2.TS) _ [some (.str c), some (.ref p), none] _
    refine w_start ?_
    repeat' (tm_at "rs")
    refine lcLs (xs := nV l) (fun D i H' => ∃ xs, H' D = some (.lst xs) ∧ TmsAt K H' xs ((l.take i).map fun j => .name (nmS c j)) ∧ Sm H H') ?_ ?_ ?_ ?_
    · exact fun D H' nD sm hD => ⟨[], hD, .nil, sm⟩
    · rintro D i H' nD hi ⟨xs, hD, hx, sm⟩
      exact sq_of (sm _ _ hp)
    · rintro D i x H' nD hi ⟨xs, hD, hx, sm⟩
      obtain ⟨n, hln, rfl⟩ := nV_gt hi
      have h1 := hn n (List.mem_of_getElem? hln)
      have hil := (List.getElem?_eq_some_iff.mp hln).1
      have htk : l.take (i + 1) = l.take i ++ [n] := by rw [List.take_succ, hln]; rfl
      have hx100 : xs.length ≤ 100 := by
        have := hx.len
        rw [List.length_map, List.length_take] at this
        omega
      repeat' (tm_at "rs")
      rename_i q H2 nq sq gq H3 k3 g3
      have hD2 := sq _ _ hD
      refine ⟨_, g3, ?_, by tm_at "rsm"⟩
      rw [htk, List.map_append]
      exact ((TmsAt.sm hx sq).one (tm_name gq)).kpL hD2 k3
    · rintro D H' nD ⟨xs, hD, hx, sm⟩
      rw [nV_len, List.take_length] at hx
      exact k D xs H' nD sm hD hx
/-! ### _law_row_sayings -/
theorem ok_f_law_row_sayings {f : Addr} {fd : FuncData} (F : Fun K "_law_row_sayings" "_law_row_sayings" s_f_law_row_sayings f fd)
    (m_str : mg "str" = none) :
    FnG P w K mg base CX0 1 f fd ["rows", "k", "done", "left"] (sp_f_law_row_sayings K) := by
  refine okG F sc_f_law_row_sayings (fun vs H Q E h => ?_) (fun cdv A outer s H vs Q E hr h => ⟨_, (pss_cons (ps_set (i := 4) sc_f_law_row_sayings.nd rfl (by first | exact Or.inl rfl | exact Or.inr rfl) (pe_ix (ix_g (K := K) rfl) (pv 0) (pv 1) (fun _ _ => rfl)))
    (pss_cons (ps_if (pt_cmpR (op_gEq (K := K) rfl hr.units) (pe_ix (ix_g (K := K) rfl) (pv 4) pe_int (fun _ _ => rfl)) pe_str (nomark _)) (pss_one (ps_ret (pe_lst pa_nil))) pss_nil)
    (pss_cons (ps_if (pt_cmpR (op_gEq (K := K) rfl hr.units) (pe_ix (ix_g (K := K) rfl) (pv 4) pe_int (fun _ _ => rfl)) pe_str (nomark _)) (pss_one (ps_ret (pe_lst (pa_cons (pe_tup (pa_cons pe_str (pa_cons (pv 3) (pa_cons (pe_ix (ix_g (K := K) rfl) (pv 2) (pe_ix (ix_g (K := K) rfl) (pv 4) pe_int (fun _ _ => rfl)) (fun _ _ => rfl)) pa_nil)))) pa_nil)))) pss_nil)
    (pss_cons (ps_if (PW.pt (pw_or (pt_cmpR (op_gNe (K := K) rfl hr.units) (pe_ix (ix_g (K := K) rfl) (pv 4) pe_int (fun _ _ => rfl)) pe_str (nomark _)) (pw_or1 (pt_cmpR (op_gEq (K := K) rfl hr.units) (pe_ix (ix_g (K := K) rfl) (pv 4) pe_int (fun _ _ => rfl)) (pe_op (op_gAdd (K := K) rfl) (pv 1) pe_int) (nomark _))))) (pss_one (ps_ret (pe_lst (pa_cons (pe_tup (pa_cons pe_str (pa_cons (pv 3) (pa_cons (pe_ix (ix_g (K := K) rfl) (pv 2) (pe_op (op_gAdd (K := K) rfl) (pv 1) pe_int) (fun _ _ => rfl)) pa_nil)))) pa_nil)))) pss_nil)
    (pss_cons (ps_set (i := 5) sc_f_law_row_sayings.nd rfl (by first | exact Or.inl rfl | exact Or.inr rfl) (pe_tup (pa_cons pe_str (pa_cons (pe_op (op_gAdd (K := K) rfl) pe_str (pe_callTy call_gStrN (by rfl) m_str PyProof.Rows.boot_str (pa_cons (pe_ix (ix_g (K := K) rfl) (pv 4) pe_int (fun _ _ => rfl)) pa_nil))) pa_nil))))
    (pss_one (ps_ret (pe_lst (pa_cons (pe_tup (pa_cons pe_str (pa_cons (pv 3) (pa_cons (pe_tup (pa_cons pe_str (pa_cons (pe_ix (ix_g (K := K) rfl) (pv 2) (pe_ix (ix_g (K := K) rfl) (pv 4) pe_int (fun _ _ => rfl)) (fun _ _ => rfl)) (pa_cons (pe_ix (ix_g (K := K) rfl) (pv 2) (pe_op (op_gAdd (K := K) rfl) (pv 1) pe_int) (fun _ _ => rfl)) pa_nil)))) pa_nil)))) (pa_cons (pe_tup (pa_cons pe_str (pa_cons (pv 3) (pa_cons (pe_tup (pa_cons pe_str (pa_cons (pe_ix (ix_g (K := K) rfl) (pv 2) (pe_op (op_gAdd (K := K) rfl) (pv 1) pe_int) (fun _ _ => rfl)) (pa_cons (pv 5) pa_nil)))) pa_nil)))) pa_nil)))))))))), ?_⟩)
  · obtain ⟨_, _, _, _, _, _, _, _, rfl, _⟩ := h
    rfl
  · obtain ⟨p, dp, j, us, ds, rs, r, l, rfl, hp, hR, hj, hd, hD, hl, hn, hgo, hbr, h14, k⟩ := h
    try dsimp only [cxOf, Cx.nox, Cx.wish]
    change (_ : L2.TS) _ [some (.ref p), some (.int (j : Nat)), some (.ref dp), some (l), none, none] _
    refine w_start ?_
    have hj14 : j < rs.length := (List.getElem?_eq_some_iff.mp hj).1
    have hul := paired_len hR
    have lsg : ∀ k, k < rs.length → (lsT (List.range rs.length))[k]? = some (.name (nmS "l" k)) := fun k hk => by
      unfold lsT
      rw [List.getElem?_map, List.getElem?_range hk]
      rfl
    repeat' (tm_at "rs")
    rename_i p1 hp1
    have hl4 : (Str.ofString "e").length ≤ 10 := by decide
    rcases r with i | i | ⟨i, g⟩ | g | _
    · have hp3 : H p1 = some (.tup [.str "raise", .int (i : Int)]) := hp1
      have hn := hn (by intro e; cases e) (by intro g e; cases e)
      have e : (rowS rs j).map opS = [.op "under" (.op "times" (.name "q") (.name (nmS "l" j))) (.name (nmS "l" (j + 1)))] := by unfold rowS; rw [hj]; rfl
      clear hp1
      repeat' (tm_at "rs")
      refine w_ixM (i := j + 1) hd hD (lsg _ hn) (fun v hv => ?_)
      repeat' (tm_at "rs")
      exact k _ _ _ (by tm_at "rfr") (by tm_at "rsm") (by assumption) (by rw [e]; assumption)
    · have hp3 : H p1 = some (.tup [.str "lower", .int (i : Int)]) := hp1
      have hn := hn (by intro e; cases e) (by intro g e; cases e)
      have e : (rowS rs j).map opS = [.op "under" (.op "times" (.name "q") (.name (nmS "l" j))) (.name (nmS "l" (j + 1)))] := by unfold rowS; rw [hj]; rfl
      clear hp1
      repeat' (tm_at "rs")
      refine w_ixM (i := j + 1) hd hD (lsg _ hn) (fun v hv => ?_)
      repeat' (tm_at "rs")
      exact k _ _ _ (by tm_at "rfr") (by tm_at "rsm") (by assumption) (by rw [e]; assumption)
    · have hp3 : H p1 = some (.tup [.str "if", .int (i : Int), .int (g : Int)]) := hp1
      have hn := hn (by intro e; cases e) (by intro g e; cases e)
      obtain ⟨hg, hi5⟩ := hbr i g rfl
      clear hp1
      repeat' (tm_at "rs")
      · rename_i ee
        have ee2 : g = j + 1 := by omega
        have e : (rowS rs j).map opS = [.op "under" (.op "times" (.name "q") (.name (nmS "l" j))) (.name (nmS "l" (j + 1)))] := by unfold rowS; rw [hj]; show (if g = j + 1 then _ else _ : List SyW).map opS = _; rw [if_pos ee2]; rfl
        refine w_ixM (i := j + 1) hd hD (lsg _ hn) (fun v hv => ?_)
        repeat' (tm_at "rs")
        exact k _ _ _ (by tm_at "rfr") (by tm_at "rsm") (by assumption) (by rw [e]; assumption)
      · rename_i ee E1 H2 n2 s2 g2
        have ee2 : ¬ g = j + 1 := by omega
        have te : TmAt K H2 (.name (nmS "e" i)) (.ref E1) := tm_name g2
        have hd2 := s2 _ _ hd
        have hD2 := TmsAt.sm hD s2
        have hl2 := hl.sm s2
        refine w_ixM (i := g) hd2 hD2 (lsg _ hg) (fun v hv => ?_)
        repeat' (tm_at "rs")
        refine w_ixM (i := j + 1) hd2 hD2 (lsg _ hn) (fun v2 hv2 => ?_)
        repeat' (tm_at "rs")
        rename_i T1 H3 n3 s3 t3 T2 H4 n4 s4 t4
        have hd4 := s4 _ _ (s3 _ _ hd2)
        have hD4 := (TmsAt.sm hD2 s3).sm s4
        have te4 := (te.sm s3).sm s4
        have hl4' := (hl2.sm s3).sm s4
        refine w_ixM (i := j + 1) hd4 hD4 (lsg _ hn) (fun v3 hv3 => ?_)
        repeat' (tm_at "rs")
        have e : (rowS rs j).map opS = [.op "under" (.op "times" (.name "q") (.name (nmS "l" j))) (.op "plus" (.name (nmS "l" g)) (.name (nmS "l" (j + 1)))), .op "under" (.op "times" (.name "q") (.name (nmS "l" j))) (.op "plus" (.name (nmS "l" (j + 1))) (.name (nmS "e" i)))] := by unfold rowS; rw [hj]; show (if g = j + 1 then _ else _ : List SyW).map opS = _; rw [if_neg ee2]; rfl
        exact k _ _ _ (by tm_at "rfr") (by tm_at "rsm") (by assumption) (by rw [e]; assumption)
    · have hp3 : H p1 = some (.tup [.str "go", .int (g : Int)]) := hp1
      have hg := hgo g rfl
      have e : (rowS rs j).map opS = [.op "under" (.op "times" (.name "q") (.name (nmS "l" j))) (.name (nmS "l" g))] := by unfold rowS; rw [hj]; rfl
      clear hp1
      repeat' (tm_at "rs")
      refine w_ixM (i := g) hd hD (lsg _ hg) (fun v hv => ?_)
      repeat' (tm_at "rs")
      exact k _ _ _ (by tm_at "rfr") (by tm_at "rsm") (by assumption) (by rw [e]; assumption)
    · have hp3 : H p1 = some (.tup [.str "stop"]) := hp1
      have e : (rowS rs j).map opS = [] := by unfold rowS; rw [hj]; rfl
      clear hp1
      repeat' (tm_at "rs")
      exact k _ _ _ (by tm_at "rfr") (by tm_at "rsm") (by assumption) (by rw [e]; exact .nil)
/-! ### _law_sum -/
theorem ok_f_law_sum {f : Addr} {fd : FuncData} (F : Fun K "_law_sum" "_law_sum" s_f_law_sum f fd)
    (m_len : mg "len" = none) :
    FnG P w K mg base CX0 1 f fd ["terms"] (sp_f_law_sum K) := by
  refine okG F sc_f_law_sum (fun vs H Q E h => ?_) (fun cdv A outer s H vs Q E hr h => ⟨_, (pss_cons (ps_if (pt_cmpR (op_gEq (K := K) rfl hr.units) (pe_callB (call_gLen (K := K) rfl) (by rfl) m_len PySem.boot_len (pa_cons (pv 0) pa_nil)) pe_int (nomark _)) (pss_one (ps_ret (pe_tup (pa_cons pe_str (pa_cons pe_int pa_nil))))) pss_nil)
    (pss_cons (ps_set (i := 1) sc_f_law_sum.nd rfl (by first | exact Or.inl rfl | exact Or.inr rfl) (pe_ix (ix_g (K := K) rfl) (pv 0) pe_int (fun _ _ => rfl)))
    (pss_cons (ps_for PassesOwn.never rfl (pi_gl (K := K) rfl (pe_slice (sl_gl (K := K) rfl) (pv 0) (po_some pe_int) po_none)) (pg_name (i := 2) sc_f_law_sum.nd rfl (by first | exact Or.inl rfl | exact Or.inr rfl)) (pss_one (ps_set (i := 1) sc_f_law_sum.nd rfl (by first | exact Or.inl rfl | exact Or.inr rfl) (pe_tup (pa_cons pe_str (pa_cons (pv 1) (pa_cons (pv 2) pa_nil)))))))
    (pss_one (ps_ret (pv 1)))))), ?_⟩)
  · obtain ⟨_, _, _, rfl, _⟩ := h
    rfl
  · obtain ⟨p, xs, ts, rfl, hp, hx, hl, k⟩ := h
    try dsimp only [cxOf, Cx.nox, Cx.wish]
    change (_ : L2.TS) _ [some (.ref p), none, none] _
    refine w_start ?_
    cases hx with
    | nil =>
      have l0 : (([] : List V).length : Int) = 0 := rfl
      repeat' (tm_at "rs")
      rename_i z H1 nz sz gz
      exact k _ _ sz (tm_num (n := 0) gz)
    | cons h0 ht =>
      rename_i v0 t0 vs ts
      repeat' (tm_at "rs")
      · rename_i e z H1 nz sz gz
        rw [List.length_cons] at e
        exact absurd e (by omega)
      · rename_i e z H1 nz sz gz
        rw [cut_lo (by decide)] at gz
        have gz : H1 z = some (.lst vs) := gz
        refine loopL (xs := vs) (fun i σ' H' => ∃ (v : V) (x2 : Option V), σ' = [some (.ref p), some v, x2] ∧ Sm H1 H' ∧ TmAt K H' (sumT (t0 :: ts.take i)) v) ⟨_, _, rfl, Same.refl _, h0.sm sz⟩ ?_ ?_ ?_
        · rintro i σ' H' hi ⟨v, x2, rfl, hs, hv⟩
          exact sq_of (hs _ _ gz)
        · rintro i x σ' H' hxi ⟨v, x2, rfl, hs, hv⟩
          obtain ⟨u, hu, hxu⟩ := paired_get ht hxi
          have htk : ts.take (i + 1) = ts.take i ++ [u] := by rw [List.take_succ, hu]; rfl
          repeat' (tm_at "rs")
          rename_i q H2 nq sq gq
          refine ⟨_, _, rfl, hs.trans sq, ?_⟩
          rw [htk, ← List.cons_append, sumT_add (by simp)]
          first | exact tm_op gq (hv.sm sq) (hxu.sm (sz.trans (hs.trans sq))) | exact gq
        · rintro σ' H' ⟨v, x2, rfl, hs, hv⟩
          rw [paired_len ht, List.take_length] at hv
          repeat' (tm_at "rs")
          exact k _ _ (sz.trans hs) hv
/-! ### _law_sayings -/
set_option maxHeartbeats 0 in
theorem ok_f_law_sayings {f : Addr} {fd : FuncData} (F : Fun K "_law_sayings" "_law_sayings" s_f_law_sayings f fd)
    (D_f_law_asked : Def P w K mg base CX0 "_law_asked" 1 ["boxes", "rows"] (sp_f_law_asked K))
    (D_f_law_named : Def P w K mg base CX0 "_law_named" 1 ["letter", "numbers"] (sp_f_law_named K))
    (D_f_law_row_sayings : Def P w K mg base CX0 "_law_row_sayings" 1 ["rows", "k", "done", "left"] (sp_f_law_row_sayings K))
    (D_f_law_sum : Def P w K mg base CX0 "_law_sum" 1 ["terms"] (sp_f_law_sum K))
    (m_enumerate : mg "enumerate" = none)
    (m_range : mg "range" = none)
    (m_list : mg "list" = none)
    (m_str : mg "str" = none)
    (m_len : mg "len" = none) :
    FnG P w K mg base CX0 2 f fd ["boxes", "rows"] (sp_f_law_sayings K) := by
  refine okG F sc_f_law_sayings (fun vs H Q E h => ?_) (fun cdv A outer s H vs Q E hr h => ⟨_, (pss_cons (ps_asg (pe_tup (pa_cons (pe_tup (pa_cons pe_str (pa_cons pe_int pa_nil))) (pa_cons (pe_tup (pa_cons pe_str (pa_cons pe_int pa_nil))) pa_nil))) (pg_gt (K := K) (n := 2) rfl rfl (pgs_cons (pg_name (i := 2) sc_f_law_sayings.nd rfl (by first | exact Or.inl rfl | exact Or.inr rfl)) (pgs_cons (pg_name (i := 3) sc_f_law_sayings.nd rfl (by first | exact Or.inl rfl | exact Or.inr rfl)) pgs_nil))))
    (pss_cons (ps_asg (pe_lc (own := _) rfl sc_f_law_sayings.nd (pi_gl (K := K) rfl (pe_callTy (call_gLstX (K := K) rfl rfl) (by rfl) m_list PyProof.Rows.boot_list (pa_cons pe_str pa_nil))) (blkOk_by (own := [("sign", 12)]) (N := ["boxes", "rows", "one", "two", "s", "c", "h", "d", "q", "g", "i", "m", "sign", "xs", "ys", "boxed", "done", "peak", "found", "r", "l", "stops", "k", "row", "j", "e", "raised", "sunk", "left", "right"]) (sc := defScope s_f_law_sayings) (by decide +kernel)) (fun _ _ _ _ _ => (pg_name (i := 12) sc_f_law_sayings.nd rfl (by first | exact Or.inl rfl | exact Or.inr rfl))) (fun _ _ _ _ _ => pts_nil) (fun _ _ _ _ _ => (pe_tup (pa_cons pe_str (pa_cons (pv 12) pa_nil))))) (pg_gl (K := K) (n := 8) rfl rfl (pgs_cons (pg_name (i := 4) sc_f_law_sayings.nd rfl (by first | exact Or.inl rfl | exact Or.inr rfl)) (pgs_cons (pg_name (i := 5) sc_f_law_sayings.nd rfl (by first | exact Or.inl rfl | exact Or.inr rfl)) (pgs_cons (pg_name (i := 6) sc_f_law_sayings.nd rfl (by first | exact Or.inl rfl | exact Or.inr rfl)) (pgs_cons (pg_name (i := 7) sc_f_law_sayings.nd rfl (by first | exact Or.inl rfl | exact Or.inr rfl)) (pgs_cons (pg_name (i := 8) sc_f_law_sayings.nd rfl (by first | exact Or.inl rfl | exact Or.inr rfl)) (pgs_cons (pg_name (i := 9) sc_f_law_sayings.nd rfl (by first | exact Or.inl rfl | exact Or.inr rfl)) (pgs_cons (pg_name (i := 10) sc_f_law_sayings.nd rfl (by first | exact Or.inl rfl | exact Or.inr rfl)) (pgs_cons (pg_name (i := 11) sc_f_law_sayings.nd rfl (by first | exact Or.inl rfl | exact Or.inr rfl)) pgs_nil))))))))))
    (pss_cons (ps_par (i := 13) (j := 14) rfl sc_f_law_sayings.nd rfl rfl (by decide) rfl rfl (pa_cons (pe_f D_f_law_named (hr.mono (by omega)) (by rfl) pass0 (pa_cons pe_str (pa_cons (pe_listRg rfl (by rfl) m_list (prg_1 (by rfl) m_range (pv 0))) pa_nil))) (pa_cons (pe_f D_f_law_named (hr.mono (by omega)) (by rfl) pass0 (pa_cons pe_str (pa_cons (pe_listRg rfl (by rfl) m_list (prg_1 (by rfl) m_range (pv 0))) pa_nil))) pa_nil)) (by rfl))
    (pss_cons (ps_asg (pe_tup (pa_cons (pe_f D_f_law_named (hr.mono (by omega)) (by rfl) pass0 (pa_cons pe_str (pa_cons (pe_listRg rfl (by rfl) m_list (prg_1 (by rfl) m_range (pv 0))) pa_nil))) (pa_cons (pe_f D_f_law_named (hr.mono (by omega)) (by rfl) pass0 (pa_cons pe_str (pa_cons (pe_listRg rfl (by rfl) m_list (prg_1 (by rfl) m_range (pe_callB (call_gLen (K := K) rfl) (by rfl) m_len PySem.boot_len (pa_cons (pv 1) pa_nil)))) pa_nil))) pa_nil))) (pg_gt (K := K) (n := 2) rfl rfl (pgs_cons (pg_name (i := 15) sc_f_law_sayings.nd rfl (by first | exact Or.inl rfl | exact Or.inr rfl)) (pgs_cons (pg_name (i := 16) sc_f_law_sayings.nd rfl (by first | exact Or.inl rfl | exact Or.inr rfl)) pgs_nil))))
    (pss_cons (ps_set (i := 17) sc_f_law_sayings.nd rfl (by first | exact Or.inl rfl | exact Or.inr rfl) (pe_tup (pa_cons pe_str (pa_cons (pv 3) (pa_cons (pe_tup (pa_cons pe_str (pa_cons (pv 5) (pa_cons (pe_tup (pa_cons pe_str (pa_cons (pv 4) (pa_cons (pv 2) pa_nil)))) pa_nil)))) pa_nil)))))
    (pss_cons (ps_set (i := 18) sc_f_law_sayings.nd rfl (by first | exact Or.inl rfl | exact Or.inr rfl) (pe_lst (pa_cons (pe_tup (pa_cons pe_str (pa_cons (pv 6) (pa_cons (pe_tup (pa_cons pe_str (pa_cons (pe_tup (pa_cons pe_str (pa_cons (pe_f D_f_law_sum (hr.mono (by omega)) (by rfl) pass0 (pa_cons (pv 13) pa_nil)) (pa_cons (pv 2) pa_nil)))) (pa_cons (pv 7) pa_nil)))) pa_nil)))) (pa_cons (pe_tup (pa_cons pe_str (pa_cons (pv 8) (pa_cons (pe_tup (pa_cons pe_str (pa_cons (pv 3) (pa_cons (pv 6) pa_nil)))) pa_nil)))) pa_nil))))
    (pss_cons (ps_set (i := 18) sc_f_law_sayings.nd rfl (by first | exact Or.inl rfl | exact Or.inr rfl) (pe_op (op_gAdd (K := K) rfl) (pv 18) (pe_lst (pa_cons (pe_tup (pa_cons pe_str (pa_cons (pv 8) (pa_cons (pe_tup (pa_cons pe_str (pa_cons (pv 3) (pa_cons (pv 5) pa_nil)))) pa_nil)))) (pa_cons (pe_tup (pa_cons pe_str (pa_cons (pv 8) (pa_cons (pe_tup (pa_cons pe_str (pa_cons (pe_tup (pa_cons pe_str (pa_cons (pe_op (op_gAdd (K := K) rfl) (pe_callB (call_gLen (K := K) rfl) (by rfl) m_len PySem.boot_len (pa_cons (pv 1) pa_nil)) pe_int) pa_nil))) (pa_cons (pv 9) pa_nil)))) pa_nil)))) pa_nil)))))
    (pss_cons (ps_set (i := 18) sc_f_law_sayings.nd rfl (by first | exact Or.inl rfl | exact Or.inr rfl) (pe_op (op_gAdd (K := K) rfl) (pv 18) (pe_lst (pa_cons (pe_tup (pa_cons pe_str (pa_cons (pe_tup (pa_cons pe_str (pa_cons (pe_tup (pa_cons pe_str (pa_cons (pv 8) (pa_cons (pv 10) pa_nil)))) (pa_cons (pv 2) pa_nil)))) (pa_cons (pe_tup (pa_cons pe_str (pa_cons (pv 17) (pa_cons (pv 10) pa_nil)))) pa_nil)))) pa_nil))))
    (pss_cons (ps_set (i := 18) sc_f_law_sayings.nd rfl (by first | exact Or.inl rfl | exact Or.inr rfl) (pe_op (op_gAdd (K := K) rfl) (pv 18) (pe_lst (pa_cons (pe_tup (pa_cons pe_str (pa_cons (pe_tup (pa_cons pe_str (pa_cons (pv 11) (pa_cons (pv 10) pa_nil)))) (pa_cons (pe_tup (pa_cons pe_str (pa_cons (pv 6) (pa_cons (pv 10) pa_nil)))) pa_nil)))) pa_nil))))
    (pss_cons (ps_set (i := 18) sc_f_law_sayings.nd rfl (by first | exact Or.inl rfl | exact Or.inr rfl) (pe_op (op_gAdd (K := K) rfl) (pe_op (op_gAdd (K := K) rfl) (pv 18) (pe_lc (own := _) rfl sc_f_law_sayings.nd (pi_gl (K := K) rfl (pv 15)) (blkOk_by (own := [("r", 19)]) (N := ["boxes", "rows", "one", "two", "s", "c", "h", "d", "q", "g", "i", "m", "sign", "xs", "ys", "boxed", "done", "peak", "found", "r", "l", "stops", "k", "row", "j", "e", "raised", "sunk", "left", "right"]) (sc := defScope s_f_law_sayings) (by decide +kernel)) (fun _ _ _ _ _ => (pg_name (i := 19) sc_f_law_sayings.nd rfl (by first | exact Or.inl rfl | exact Or.inr rfl))) (fun _ _ _ _ _ => pts_nil) (fun _ _ _ _ _ => (pe_tup (pa_cons pe_str (pa_cons (pv 19) (pa_cons (pv 11) pa_nil))))))) (pe_lc (own := _) rfl sc_f_law_sayings.nd (pi_gl (K := K) rfl (pv 16)) (blkOk_by (own := [("l", 20)]) (N := ["boxes", "rows", "one", "two", "s", "c", "h", "d", "q", "g", "i", "m", "sign", "xs", "ys", "boxed", "done", "peak", "found", "r", "l", "stops", "k", "row", "j", "e", "raised", "sunk", "left", "right"]) (sc := defScope s_f_law_sayings) (by decide +kernel)) (fun _ _ _ _ _ => (pg_name (i := 20) sc_f_law_sayings.nd rfl (by first | exact Or.inl rfl | exact Or.inr rfl))) (fun _ _ _ _ _ => pts_nil) (fun _ _ _ _ _ => (pe_tup (pa_cons pe_str (pa_cons (pv 20) (pa_cons (pv 10) pa_nil))))))))
    (pss_cons (ps_setLc (i := 21) rfl sc_f_law_sayings.nd rfl rfl (sw_true rfl rfl rfl (by decide +kernel)) (pi_enum (by rfl) m_enumerate (pa_cons (pv 1) pa_nil)) (blkOk_by (own := [("k", 22), ("row", 23)]) (N := ["boxes", "rows", "one", "two", "s", "c", "h", "d", "q", "g", "i", "m", "sign", "xs", "ys", "boxed", "done", "peak", "found", "r", "l", "stops", "k", "row", "j", "e", "raised", "sunk", "left", "right"]) (sc := defScope s_f_law_sayings) (by decide +kernel)) (fun _ _ _ _ _ => (pg_gt (K := K) (n := 2) rfl rfl (pgs_cons (pg_name (i := 22) sc_f_law_sayings.nd rfl (by first | exact Or.inl rfl | exact Or.inr rfl)) (pgs_cons (pg_name (i := 23) sc_f_law_sayings.nd rfl (by first | exact Or.inl rfl | exact Or.inr rfl)) pgs_nil)))) (fun _ _ _ _ _ => pts_one (pt_cmpR (op_gEq (K := K) rfl hr.units) (pe_ix (ix_g (K := K) rfl) (pv 23) pe_int (fun _ _ => rfl)) pe_str (nomark _))) (fun _ _ _ _ _ => (pe_ix (ix_g (K := K) rfl) (pv 16) (pv 22) (fun _ _ => rfl))))
    (pss_cons (ps_set (i := 18) sc_f_law_sayings.nd rfl (by first | exact Or.inl rfl | exact Or.inr rfl) (pe_op (op_gAdd (K := K) rfl) (pv 18) (pe_lst (pa_cons (pe_tup (pa_cons pe_str (pa_cons (pe_f D_f_law_sum (hr.mono (by omega)) (by rfl) pass0 (pa_cons (pv 16) pa_nil)) (pa_cons (pv 10) pa_nil)))) (pa_cons (pe_tup (pa_cons pe_str (pa_cons (pv 2) (pa_cons (pe_ix (ix_g (K := K) rfl) (pv 16) pe_int (fun _ _ => rfl)) pa_nil)))) pa_nil)))))
    (pss_cons (ps_set (i := 18) sc_f_law_sayings.nd rfl (by first | exact Or.inl rfl | exact Or.inr rfl) (pe_op (op_gAdd (K := K) rfl) (pv 18) (pe_lst (pa_cons (pe_tup (pa_cons pe_str (pa_cons (pe_f D_f_law_sum (hr.mono (by omega)) (by rfl) pass0 (pa_cons (pv 21) pa_nil)) (pa_cons (pe_tup (pa_cons pe_str (pa_cons (pv 3) (pa_cons (pe_tup (pa_cons pe_str (pa_cons (pv 5) (pa_cons (pv 4) pa_nil)))) pa_nil)))) pa_nil)))) pa_nil))))
    (pss_cons (ps_for PassesOwn.never rfl (pi_gl (K := K) rfl (pe_f D_f_law_asked (hr.mono (by omega)) (by rfl) pass0 (pa_cons (pv 0) (pa_cons (pv 1) pa_nil)))) (pg_name (i := 24) sc_f_law_sayings.nd rfl (by first | exact Or.inl rfl | exact Or.inr rfl)) (pss_cons (ps_set (i := 25) sc_f_law_sayings.nd rfl (by first | exact Or.inl rfl | exact Or.inr rfl) (pe_tup (pa_cons pe_str (pa_cons (pe_op (op_gAdd (K := K) rfl) pe_str (pe_callTy call_gStrN (by rfl) m_str PyProof.Rows.boot_str (pa_cons (pv 24) pa_nil))) pa_nil))))
    (pss_one (ps_expr (pe_gbm (K := K) rfl PySem.F.plainAttrs_list PySem.F.slot_list_append PySem.F.type_list_append mt_append (pv 18) (pa_cons (pe_tup (pa_cons pe_str (pa_cons (pe_tup (pa_cons pe_str (pa_cons (pv 25) (pa_cons (pe_tup (pa_cons pe_str (pa_cons (pv 3) (pa_cons (pe_ix (ix_g (K := K) rfl) (pv 15) (pv 24) (fun _ _ => rfl)) pa_nil)))) pa_nil)))) (pa_cons (pe_tup (pa_cons pe_str (pa_cons (pv 8) (pa_cons (pv 10) pa_nil)))) pa_nil)))) pa_nil))))))
    (pss_cons (ps_for PassesOwn.never rfl (pi_enum (by rfl) m_enumerate (pa_cons (pv 1) pa_nil)) (pg_gt (K := K) (n := 2) rfl rfl (pgs_cons (pg_name (i := 22) sc_f_law_sayings.nd rfl (by first | exact Or.inl rfl | exact Or.inr rfl)) (pgs_cons (pg_name (i := 23) sc_f_law_sayings.nd rfl (by first | exact Or.inl rfl | exact Or.inr rfl)) pgs_nil))) (pss_one (ps_set (i := 18) sc_f_law_sayings.nd rfl (by first | exact Or.inl rfl | exact Or.inr rfl) (pe_op (op_gAdd (K := K) rfl) (pv 18) (pe_f D_f_law_row_sayings (hr.mono (by omega)) (by rfl) pass0 (pa_cons (pv 1) (pa_cons (pv 22) (pa_cons (pv 16) (pa_cons (pe_tup (pa_cons pe_str (pa_cons (pv 8) (pa_cons (pe_ix (ix_g (K := K) rfl) (pv 16) (pv 22) (fun _ _ => rfl)) pa_nil)))) pa_nil)))))))))
    (pss_cons (ps_for PassesOwn.never rfl (pi_range1 (by rfl) m_range (pa_cons (pv 0) pa_nil)) (pg_name (i := 24) sc_f_law_sayings.nd rfl (by first | exact Or.inl rfl | exact Or.inr rfl)) (pss_cons (ps_setLc (i := 26) rfl sc_f_law_sayings.nd rfl rfl (sw_true rfl rfl rfl (by decide +kernel)) (pi_enum (by rfl) m_enumerate (pa_cons (pv 1) pa_nil)) (blkOk_by (own := [("k", 22), ("row", 23)]) (N := ["boxes", "rows", "one", "two", "s", "c", "h", "d", "q", "g", "i", "m", "sign", "xs", "ys", "boxed", "done", "peak", "found", "r", "l", "stops", "k", "row", "j", "e", "raised", "sunk", "left", "right"]) (sc := defScope s_f_law_sayings) (by decide +kernel)) (fun _ _ _ _ _ => (pg_gt (K := K) (n := 2) rfl rfl (pgs_cons (pg_name (i := 22) sc_f_law_sayings.nd rfl (by first | exact Or.inl rfl | exact Or.inr rfl)) (pgs_cons (pg_name (i := 23) sc_f_law_sayings.nd rfl (by first | exact Or.inl rfl | exact Or.inr rfl)) pgs_nil)))) (fun _ _ _ _ _ => pts_one (pt_cmpR (op_gEq (K := K) rfl hr.units) (pv 23) (pe_tup (pa_cons pe_str (pa_cons (pv 24) pa_nil))) (nomark _))) (fun _ _ _ _ _ => (pe_ix (ix_g (K := K) rfl) (pv 16) (pv 22) (fun _ _ => rfl))))
    (pss_cons (ps_setLc (i := 27) rfl sc_f_law_sayings.nd rfl rfl (sw_true rfl rfl rfl (by decide +kernel)) (pi_enum (by rfl) m_enumerate (pa_cons (pv 1) pa_nil)) (blkOk_by (own := [("k", 22), ("row", 23)]) (N := ["boxes", "rows", "one", "two", "s", "c", "h", "d", "q", "g", "i", "m", "sign", "xs", "ys", "boxed", "done", "peak", "found", "r", "l", "stops", "k", "row", "j", "e", "raised", "sunk", "left", "right"]) (sc := defScope s_f_law_sayings) (by decide +kernel)) (fun _ _ _ _ _ => (pg_gt (K := K) (n := 2) rfl rfl (pgs_cons (pg_name (i := 22) sc_f_law_sayings.nd rfl (by first | exact Or.inl rfl | exact Or.inr rfl)) (pgs_cons (pg_name (i := 23) sc_f_law_sayings.nd rfl (by first | exact Or.inl rfl | exact Or.inr rfl)) pgs_nil)))) (fun _ _ _ _ _ => pts_one (pt_cmpR (op_gEq (K := K) rfl hr.units) (pv 23) (pe_tup (pa_cons pe_str (pa_cons (pv 24) pa_nil))) (nomark _))) (fun _ _ _ _ _ => (pe_ix (ix_g (K := K) rfl) (pv 16) (pv 22) (fun _ _ => rfl))))
    (pss_cons (ps_set (i := 28) sc_f_law_sayings.nd rfl (by first | exact Or.inl rfl | exact Or.inr rfl) (pe_tup (pa_cons pe_str (pa_cons (pe_tup (pa_cons pe_str (pa_cons (pv 8) (pa_cons (pe_tup (pa_cons pe_str (pa_cons (pe_ix (ix_g (K := K) rfl) (pv 15) (pv 24) (fun _ _ => rfl)) (pa_cons (pe_f D_f_law_sum (hr.mono (by omega)) (by rfl) pass0 (pa_cons (pv 26) pa_nil)) pa_nil)))) pa_nil)))) (pa_cons (pe_ix (ix_g (K := K) rfl) (pv 13) (pv 24) (fun _ _ => rfl)) pa_nil)))))
    (pss_cons (ps_set (i := 29) sc_f_law_sayings.nd rfl (by first | exact Or.inl rfl | exact Or.inr rfl) (pe_tup (pa_cons pe_str (pa_cons (pe_ix (ix_g (K := K) rfl) (pv 15) (pv 24) (fun _ _ => rfl)) (pa_cons (pe_tup (pa_cons pe_str (pa_cons (pv 8) (pa_cons (pe_f D_f_law_sum (hr.mono (by omega)) (by rfl) pass0 (pa_cons (pv 27) pa_nil)) pa_nil)))) pa_nil)))))
    (pss_one (ps_expr (pe_gbm (K := K) rfl PySem.F.plainAttrs_list PySem.F.slot_list_append PySem.F.type_list_append mt_append (pv 18) (pa_cons (pe_tup (pa_cons pe_str (pa_cons (pv 28) (pa_cons (pe_tup (pa_cons pe_str (pa_cons (pv 29) (pa_cons (pe_tup (pa_cons pe_str (pa_cons (pv 17) (pa_cons (pe_ix (ix_g (K := K) rfl) (pv 14) (pv 24) (fun _ _ => rfl)) pa_nil)))) pa_nil)))) pa_nil)))) pa_nil)))))))))
    (pss_one (ps_ret (pv 18))))))))))))))))))), ?_⟩)
  · obtain ⟨_, _, _, _, rfl, _⟩ := h
    rfl
  · obtain ⟨m, p, us, rs, rfl, hp, hR, hg, k⟩ := h
    try dsimp only [cxOf, Cx.nox, Cx.wish]
    change (_ : L2.TS) _ [some (.int (m : Nat)), some (.ref p), none, none, none, none, none, none, none, none, none, none, none, none, none, none, none, none, none, none, none, none, none, none, none, none, none, none, none, none] _
    refine w_start ?_
    have h5 := hg.b5
    have h14 := hg.len
    have hul := paired_len hR
    repeat' (tm_at "rs")
    refine w_lstX (by decide) (fun L8 H3 n8 s8 g8 => ?_)
    repeat' (tm_at "rs")
    rename_i A1 H1 n1 s1 g1 A2 H2 n2 s2 g2 A0 HT nT sT gT
    have e8 : sgV (Str.ofString "schdqgim") = nm8.map V.str := by rfl
    rw [e8] at g8
    refine lcLs (xs := nm8.map V.str) (fun D i H' => ∃ xs, H' D = some (.lst xs) ∧ TmsAt K H' xs ((nm8.take i).map Tm.name) ∧ Sm H3 H') ?_ ?_ ?_ ?_
    · exact fun D H' nD sm hD => ⟨[], hD, .nil, sm⟩
    · rintro D i H' nD hi ⟨xs, hD, hx, sm⟩
      exact sq_of (sm _ _ g8)
    · rintro D i x H' nD hi ⟨xs, hD, hx, sm⟩
      obtain ⟨z, hz, rfl⟩ : ∃ z, nm8[i]? = some z ∧ x = .str z := by
        rw [List.getElem?_map] at hi
        cases e : nm8[i]? with
        | none => rw [e] at hi; cases hi
        | some n => rw [e] at hi; exact ⟨n, rfl, (Option.some.inj hi).symm⟩
      have htk : nm8.take (i + 1) = nm8.take i ++ [z] := by rw [List.take_succ, hz]; rfl
      have hx100 : xs.length ≤ 100 := by
        have := hx.len
        rw [List.length_map, List.length_take] at this
        have h8 : nm8.length = 8 := rfl
        omega
      repeat' (tm_at "rs")
      rename_i q H4 nq sq gq H5 k5 g5
      have hD2 := sq _ _ hD
      refine ⟨_, g5, ?_, by tm_at "rsm"⟩
      rw [htk, List.map_append]
      exact ((TmsAt.sm hx sq).one (tm_name gq)).kpL hD2 k5
    · rintro D H' nD ⟨xs, hD, hx, sm⟩
      have hx : TmsAt K H' xs [.name (Str.ofString "s"), .name (Str.ofString "c"), .name (Str.ofString "h"), .name (Str.ofString "d"), .name (Str.ofString "q"), .name (Str.ofString "g"), .name (Str.ofString "i"), .name (Str.ofString "m")] := hx
      rcases hx with _ | ⟨ts, _ | ⟨tc, _ | ⟨th, _ | ⟨td, _ | ⟨tq, _ | ⟨tg, _ | ⟨ti, _ | ⟨tm, _ | _⟩⟩⟩⟩⟩⟩⟩⟩
      have sA : Sm H H' := s1.trans (s2.trans (sT.trans (s8.trans sm)))
      have t1 : TmAt K H' (.num 1) (.ref A1) := (tm_num (n := 1) g1).sm (s2.trans (sT.trans (s8.trans sm)))
      have t2 : TmAt K H' (.num 2) (.ref A2) := (tm_num (n := 2) g2).sm (sT.trans (s8.trans sm))
      have hp := sA _ _ hp
      have hR := hR.tk (Tk.sm sA)
      have hDn : H D = none := (s1.trans (s2.trans (sT.trans s8))).free nD
      rename_i vs_ vc vh vd vq vg vi vm
      clear g1 g2 gT g8 n1 n2 nT n8 sm s8 sT s2 s1
      refine w_glst (sq_of hD) rfl ?_
      clear hD
      iterate 90 (tm_at "rs")
      rename_i X0 Ha nX0 sX0 gX0 X xs Hb nX sX gX hX lX Y0 Hc nY0 sY0 gY0 Y ys Hd nY sY gY hY lY R0 He nR0 sR0 gR0 R ws Hf nR sR gR hRr lR L0 Hg nL0 sL0 gL0 L ls Hh nL sL gL hL lL T0 Hi nT0 sT0 gT0
      have z7 : Sm Hh Hi := sT0
      have z6 : Sm Hf Hi := sL0.trans (sL.trans z7)
      have z5 : Sm Hd Hi := sR0.trans (sR.trans z6)
      have z4 : Sm Hb Hi := sY0.trans (sY.trans z5)
      have z0 : Sm H' Hi := sX0.trans (sX.trans z4)
      have gX := z4 _ _ gX
      have gY := z5 _ _ gY
      have gR := z6 _ _ gR
      have gL := z7 _ _ gL
      have hX := TmsAt.sm hX z4
      have hY := TmsAt.sm hY z5
      have hRr := TmsAt.sm hRr z6
      have hL := TmsAt.sm hL z7
      have hp := z0 _ _ hp
      have hR := hR.tk (Tk.sm z0)
      have ts := ts.sm z0
      have tc := tc.sm z0
      have th := th.sm z0
      have td := td.sm z0
      have tq := tq.sm z0
      have tg := tg.sm z0
      have ti := ti.sm z0
      have tm := tm.sm z0
      have t1 := t1.sm z0
      have t2 := t2.sm z0
      have sA := sA.trans z0
      rw [hul] at lL hL
      clear z7 z6 z5 z4 z0 nX0 sX0 gX0 nX sX nY0 sY0 gY0 nY sY nR0 sR0 gR0 nR sR nL0 sL0 gL0 nL sL nT0 sT0 gT0 hDn
      dsimp only [List.set_cons_succ, List.set_cons_zero]
      repeat' (tm_at "rs")
      rename_i u145 u144 u143 u142 u141 u140 u139 u138 u137 u136 u135 u134 u133 u132 u131 u130 u129 u128 u127 u126 u125 u124 u123 u122 u121 u120 u119 u118 u117 u116 u115 u114 u113 u112 u111 u110 u109 u108 u107 u106 u105 u104 u103 u102 u101 u100 u99 u98 u97 u96 u95 u94 u93 u92 u91 u90 u89 u88 u87 u86 u85 u84 u83 u82 u81 u80 u79 u78 u77 u76 u75 u74 u73 u72 u71 u70 u69 u68 u67 u66 u65 u64 u63 u62 u61 u60 u59 u58 u57 u56 u55 u54 u53 u52 u51 u50 u49 u48 u47 u46 u45 u44 u43 u42 u41 u40 u39 u38 u37 u36 u35 u34 u33 u32 u31 u30 u29 u28 u27 u26 u25 u24 u23 u22 u21 u20 u19 u18 u17 u16 u15 u14 u13 u12 u11 u10 u9 u8 u7 u6 B0 H9 nB sB gB hB
      have s9 : Sm Hi H9 := by tm_at "rsm"
      have tpk : TmAt K H9 topT (.ref u135) := TmAt.sm u131 (by clear s9; tm_at "rsm")
      have hB1 : TmsAt K H9 _ ((baseS m us.length).map opS) := hB
      rw [hul] at hB1
      have pk : ∃ bs, H9 B0 = some (.lst bs) ∧ TmsAt K H9 bs ((baseS m rs.length).map opS) := ⟨_, gB, hB1⟩
      clear hB hB1 gB
      obtain ⟨bs, gB, hB⟩ := pk
      dsimp only [List.set_cons_succ, List.set_cons_zero]
      clear u6 u7 u8 u9 u10 u11 u12 u13 u14 u15 u16 u17 u18 u19 u20 u21 u22 u23 u24 u25 u26 u27 u28 u29 u30 u31 u32 u33 u34 u35 u36 u37 u38 u39 u40 u41 u42 u43 u44 u45 u46 u47 u48 u49 u50 u51 u52 u53 u54 u55 u56 u57 u58 u59 u60 u61 u62 u63 u64 u65 u66 u67 u68 u69 u70 u71 u72 u73 u74 u75 u76 u77 u78 u79 u80 u81 u82 u83 u84 u85 u86 u87 u88 u89 u90 u91 u92 u93 u94 u95 u96 u97 u98 u99 u100 u101 u102 u103 u104 u105 u106 u107 u108 u109 u110 u111 u112 u113 u114 u115 u116 u117 u118 u119 u120 u121 u122 u123 u124 u125 u126 u127 u128 u129 u130 u131 u132 u133 u134 u136 u137 u138 u139 u140 u141 u142 u143 u144 u145 nB sB
      have gR := s9 _ _ gR
      have gL := s9 _ _ gL
      have gX := s9 _ _ gX
      have gY := s9 _ _ gY
      have hX := TmsAt.sm hX s9
      have hY := TmsAt.sm hY s9
      have hRr := TmsAt.sm hRr s9
      have hL := TmsAt.sm hL s9
      have hp := s9 _ _ hp
      have hR := hR.tk (Tk.sm s9)
      have ts := ts.sm s9
      have tc := tc.sm s9
      have tq := tq.sm s9
      have ti := ti.sm s9
      have tm := tm.sm s9
      have t1 := t1.sm s9
      have t2 := t2.sm s9
      have sA := sA.trans s9
      clear s9 th td tg
      refine lcMs (F := fun t => .op "under" t (.name "m")) gR hRr (by omega) (fun x t D H' zs R sm tx hD hzl kk => ?_) (fun Q1 zs1 H10 nQ sQ gQ hQ lQ => ?_)
      · have tm := tm.sm sm
        clear hD
        repeat' (tm_at "rs")
        rename_i q H2 nq sq tq
        exact kk _ _ sq tq
      have hbl := TmsAt.len hB
      rw [List.length_map, baseS_len] at hbl
      have gB := sQ _ _ gB
      have hB := TmsAt.sm hB sQ
      have gL2 := sQ _ _ gL
      have hL2 := TmsAt.sm hL sQ
      repeat' (tm_at "rs")
      rename_i C1 H11 nC1 sC1 gC1 hC1
      have gL3 := sC1 _ _ gL2
      have hL3 := TmsAt.sm hL2 sC1
      refine lcMs (F := fun t => .op "under" t (.name "i")) gL3 hL3 (by omega) (fun x t D H' zs R sm tx hD hzl kk => ?_) (fun Q2 zs2 H12 nQ2 sQ2 gQ2 hQ2 lQ2 => ?_)
      · have ti := ti.sm (sQ.trans (sC1.trans sm))
        clear hD
        repeat' (tm_at "rs")
        rename_i q H2 nq sq tq
        exact kk _ _ sq tq
      have gC1 := sQ2 _ _ gC1
      have hC1 := TmsAt.sm hC1 sQ2
      repeat' (tm_at "rs")
      rename_i F0 H13 nF0 sF0 gF0 hF0
      have hs13 : Sm H9 H13 := by tm_at "rsm"
      have S : S32 K H13 m rs.length p X Y R L us xs ys ws ls rs (.ref A1) (.ref A2) vc vs_ vq vi (.ref u135) := ⟨hs13 _ _ hp, hR.tk (Tk.sm hs13), hs13 _ _ gX, TmsAt.sm hX hs13, hs13 _ _ gY, TmsAt.sm hY hs13, hs13 _ _ gR, TmsAt.sm hRr hs13, hs13 _ _ gL, TmsAt.sm hL hs13, t1.sm hs13, t2.sm hs13, tc.sm hs13, ts.sm hs13, tq.sm hs13, ti.sm hs13, tpk.sm hs13⟩
      have sA := sA.trans hs13
      have hfl : (bs ++ zs1 ++ zs2).length ≤ 100 := by
        rw [List.length_append, List.length_append]
        omega
      have hF0 : TmsAt K H13 (bs ++ zs1 ++ zs2) ((baseS m rs.length ++ (List.range m).map (fun j => undr (.name (nmS "r" j)) (.name "m")) ++ (List.range rs.length).map (fun k => undr (.name (nmS "l" k)) (.name "i"))).map opS) := by
        rw [List.map_append, List.map_append, List.map_map, List.map_map]
        rw [List.map_map, List.map_map] at hF0
        exact hF0
      have pk : ∃ zs, H13 F0 = some (.lst zs) ∧ zs.length ≤ 100 ∧ TmsAt K H13 zs ((baseS m rs.length ++ (List.range m).map (fun j => undr (.name (nmS "r" j)) (.name "m")) ++ (List.range rs.length).map (fun k => undr (.name (nmS "l" k)) (.name "i"))).map opS) := ⟨_, gF0, hfl, hF0⟩
      clear hs13 hF0 gF0 hfl hC1 gC1 gB hB hX hY hRr hL gX gY gR gL t1 t2 tc ts tq ti tm tpk hp hR gL2 hL2 gL3 hL3 gQ hQ gQ2 hQ2 nQ nQ2 nC1 nF0 sQ sQ2 sC1 sF0
      obtain ⟨fs, gF, hfl, hF⟩ := pk
      refine lcEn (xs := us) (fun D i H' => ∃ zs, H' D = some (.lst zs) ∧ TmsAt K H' zs (lsT (stpK rs i)) ∧ zs.length ≤ i ∧ Sm H13 H') ?_ ?_ ?_ ?_
      · exact fun D H' nD sm hD => ⟨[], hD, .nil, Nat.le_refl _, sm⟩
      · rintro D i H' nD hi ⟨zs, hD, hz, hzl, sm⟩
        exact sq_of (sm _ _ S.hp)
      · rintro D i x T H1 H' nD hil hx ⟨zs, hD, hz, hzl, sm⟩ nT sT gT
        obtain ⟨r, hri, t, rfl, ht⟩ := paired_get S.hR hx
        have sm' := sm.trans sT
        have ht' : H' t = some (.tup r.vs) := sm' _ _ ht
        have gL' := sm' _ _ S.gL
        have hL' := TmsAt.sm S.hL sm'
        have hD' := sT _ _ hD
        have hz' := TmsAt.sm hz sT
        have hzl2 : zs.length ≤ 100 := by omega
        rw [stpK_succ, hri]
        clear hD hz
        rcases r with j | j | ⟨j, g⟩ | g | _
        · have ht3 : H' t = some (.tup [.str "raise", .int (j : Int)]) := ht'
          clear ht' ht
          rw [if_neg (by intro e; cases e), List.append_nil]
          repeat' (tm_at "rs")
          exact ⟨zs, hD', hz', by omega, sm'⟩
        · have ht3 : H' t = some (.tup [.str "lower", .int (j : Int)]) := ht'
          clear ht' ht
          rw [if_neg (by intro e; cases e), List.append_nil]
          repeat' (tm_at "rs")
          exact ⟨zs, hD', hz', by omega, sm'⟩
        · have ht3 : H' t = some (.tup [.str "if", .int (j : Int), .int (g : Int)]) := ht'
          clear ht' ht
          rw [if_neg (by intro e; cases e), List.append_nil]
          repeat' (tm_at "rs")
          exact ⟨zs, hD', hz', by omega, sm'⟩
        · have ht3 : H' t = some (.tup [.str "go", .int (g : Int)]) := ht'
          clear ht' ht
          rw [if_neg (by intro e; cases e), List.append_nil]
          repeat' (tm_at "rs")
          exact ⟨zs, hD', hz', by omega, sm'⟩
        · have ht3 : H' t = some (.tup [.str "stop"]) := ht'
          clear ht' ht
          rw [if_pos rfl, lsT_snoc]
          repeat' (tm_at "rs")
          refine w_ixM (i := i) gL' hL' (lsg (by omega)) (fun v hv => ?_)
          refine w_lcEnd hD' (sz_lt (by omega)) (fun H3 k3 g3 => ?_)
          exact ⟨_, g3, (hz'.one hv).kpL hD' k3, by rw [List.length_append]; show zs.length + 1 ≤ _; omega, by tm_at "rsm"⟩
      · rintro D H' nD ⟨zs, hD, hz, hzl, sm⟩
        rw [hul] at hz
        have S2 := S.sm sm
        have gF2 := sm _ _ gF
        have hF2 := TmsAt.sm hF sm
        have sA2 := sA.trans sm
        obtain ⟨gp2, hR2, gX2, hX2, gY2, hY2, gR2, hW2, gL2, hL2, t1, t2, tc, ts, tq, ti, tk⟩ := id S2
        have hpos := hg.pos
        have hll : ls.length ≤ 14 := by omega
        clear S gF hF sm sA nD
        repeat' (tm_at "rs")
        rename_i v1 H3 s3 tv1 E1 H4 nE1 sE1 tE1
        have s24 : Sm H' H4 := s3.trans sE1
        refine w_ixM (i := 0) (s24 _ _ gL2) (TmsAt.sm hL2 s24) (lsg (by omega)) (fun v hv => ?_)
        have t1 := t1.sm s24
        clear s24
        repeat' (tm_at "rs")
        rename_i F1 H14 nF1 sF1 gF1 hF1
        have nF1' : H' F1 = none := by tm_at "rfr"
        obtain ⟨np1, nX1, nY1, nR1, nL1⟩ := S2.new nF1'
        have nF1H : H F1 = none := sA2.free nF1'
        have s14 : Sm H' H14 := by clear sA2; tm_at "rsm"
        have S4 := S2.sm s14
        have sA4 := sA2.trans s14
        have pk : ∃ zs, H14 F1 = some (.lst zs) ∧ zs.length ≤ 103 ∧ TmsAt K H14 zs ((p1S m rs).map opS) := by
          refine ⟨_, gF1, by simp only [List.length_append, List.length_cons, List.length_nil]; omega, ?_⟩
          unfold p1S
          rw [List.map_append, List.map_append (l₁ := _ ++ _ ++ _)]
          exact hF1
        clear gF1 hF1 nF1 sF1 nF1' s14 sA2 S2 gp2 hR2 gX2 hX2 gY2 hY2 gR2 hW2 gL2 hL2 t1 t2 tc ts tq ti tk gF2 hF2 hD hz
        obtain ⟨fs2, gF, hgl, hF⟩ := pk
        refine call_lawAsked S4.hp S4.hR (by omega) (by omega) (fun AQ H15 nq s15 gq => ?_)
        have S5 := S4.sm s15
        have gF5 := s15 _ _ gF
        have hF5 := TmsAt.sm hF s15
        have sA5 := sA4.trans s15
        have hal := asked_le m rs
        have hnl : (nV (asked m rs)).length ≤ 5 := by rw [nV_len]; omega
        have nqF : AQ ≠ F1 := (ne_of_none gF nq).symm
        clear S4 gF hF sA4 s15 nq
        dsimp only [List.set_cons_succ, List.set_cons_zero]
        repeat' (tm_at "rs")
        refine loopL (xs := nV (asked m rs)) (fun i σ' H' => ∃ (x24 x25 : Option V) (zs : List V), σ' = [some (.int (m : Nat)), some (.ref p), some (.ref A1), some (.ref A2), some vs_, some vc, some vh, some vd, some vq, some vg, some vi, some vm, none, some (.ref X), some (.ref Y), some (.ref R), some (.ref L), some (.ref u135), some (.ref F1), none, none, some (.ref D), none, none, x24, x25, none, none, none, none] ∧ Kp F1 H15 H' ∧ H' F1 = some (.lst zs) ∧ zs.length ≤ 103 + i ∧ TmsAt K H' zs ((p1S m rs ++ ((asked m rs).take i).map askS).map opS)) ?_ ?_ ?_ ?_
        · exact ⟨_, _, fs2, rfl, Kp.refl _, gF5, by omega, by rw [List.take_zero]; show TmsAt K H15 fs2 ((p1S m rs ++ []).map opS); rw [List.append_nil]; exact hF5⟩
        · rintro i σ' H' hi ⟨x24, x25, zs, rfl, kF, gF, hl, hz⟩
          exact sq_of (kF _ _ nqF gq)
        · rintro i x σ' H' hx ⟨x24, x25, zs, rfl, kF, gF, hl, hz⟩
          obtain ⟨j, hj, rfl⟩ := nV_gt hx
          have hjm := asked_lt j (List.mem_of_getElem? hj)
          have hil := (List.getElem?_eq_some_iff.mp hj).1
          have hj3 : j < 1000 := by omega
          obtain ⟨gp2, hR2, gX2, hX2, gY2, hY2, gR2, hW2, gL2, hL2, t1, t2, tc, ts, tq, ti, tk⟩ := S5.kp gF5 kF np1 nX1 nY1 nR1 nL1
          have htk : (asked m rs).take (i + 1) = (asked m rs).take i ++ [j] := by rw [List.take_succ, hj]; rfl
          clear S5 hF5
          repeat' (tm_at "rs")
          rename_i E2 H16 nE2 sE2 gE2
          have te2 : TmAt K H16 (.name (nmS "e" j)) (.ref E2) := tm_name gE2
          refine w_ixM (i := j) (sE2 _ _ gR2) (TmsAt.sm hW2 sE2) (nmg hjm) (fun v hv => ?_)
          clear gE2
          repeat' (tm_at "rs")
          rename_i H17 k17 g17 h17
          refine ⟨_, _, _, rfl, by tm_at "rkp", g17, by rw [List.length_append]; show zs.length + 1 ≤ _; omega, ?_⟩
          have e17 : (p1S m rs ++ ((asked m rs).take i ++ [j]).map askS).map opS = (p1S m rs ++ ((asked m rs).take i).map askS).map opS ++ [opS (askS j)] := by simp only [List.map_append, List.append_assoc, List.map_cons, List.map_nil]
          rw [htk, e17]
          exact h17
        · rintro σ' H' ⟨x24, x25, zs, rfl, kF, gF, hl, hz⟩
          rw [nV_len, List.take_length] at hz
          rw [nV_len] at hl
          have S6 := S5.kp gF5 kF np1 nX1 nY1 nR1 nL1
          have sA6 : Sm H H' := sm_mut sA5 nF1H kF
          clear S5 hF5 gF5 kF sA5 gq hnl nqF
          repeat' (tm_at "rs")
          refine loopEn (xs := us) (fun i σ2 H2 => ∃ (Fx : Addr) (x22 x23 : Option V) (zs : List V), σ2 = [some (.int (m : Nat)), some (.ref p), some (.ref A1), some (.ref A2), some vs_, some vc, some vh, some vd, some vq, some vg, some vi, some vm, none, some (.ref X), some (.ref Y), some (.ref R), some (.ref L), some (.ref u135), some (.ref Fx), none, none, some (.ref D), x22, x23, x24, x25, none, none, none, none] ∧ (p ≠ Fx ∧ X ≠ Fx ∧ Y ≠ Fx ∧ R ≠ Fx ∧ L ≠ Fx) ∧ H Fx = none ∧ Sm H' H2 ∧ H2 Fx = some (.lst zs) ∧ zs.length ≤ 108 + 2 * i ∧ TmsAt K H2 zs ((p1S m rs ++ (asked m rs).map askS ++ rowsS rs i).map opS)) ?_ ?_ ?_ ?_
          · exact ⟨F1, _, _, zs, rfl, ⟨np1, nX1, nY1, nR1, nL1⟩, nF1H, Same.refl _, gF, by omega, by show TmsAt K H' zs ((_ ++ []).map opS); rw [List.append_nil]; exact hz⟩
          · rintro i σ2 H2 hi ⟨Fx, x22, x23, zs, rfl, nn, nH, sm, gF, hl, hz⟩
            exact sq_of (sm _ _ S6.hp)
          · rintro i x T σ2 H1 H2 hil hx ⟨Fx, x22, x23, zs2, rfl, nn, nH, sm, gF2, hl2, hz2⟩ nT sT gT
            obtain ⟨r, hri, t, rfl, ht⟩ := paired_get S6.hR hx
            have sm2 := sm.trans sT
            have S7 := S6.sm sm2
            obtain ⟨gp2, hR2, gX2, hX2, gY2, hY2, gR2, hW2, gL2, hL2, t1, t2, tc, ts, tq, ti, tk⟩ := id S7
            have gF3 := sT _ _ gF2
            have hz3 := TmsAt.sm hz2 sT
            clear hz2 gF2
            repeat' (tm_at "rs")
            refine w_ixM (i := i) gL2 hL2 (lsg (by omega)) (fun v hv => ?_)
            repeat' (tm_at "rs")
            rename_i Tw H3 nTw sTw tTw
            have ho := hg.ok r (List.mem_of_getElem? hri)
            refine call_lawRowS (sTw _ _ gp2) (hR2.tk (Tk.sm sTw)) hri (sTw _ _ gL2) (TmsAt.sm hL2 sTw) tTw (fun a b => hg.next hri a b) (fun g e => by subst e; exact ho) (fun a g e => by subst e; exact ⟨ho.2, by have := ho.1; omega⟩) h14 (fun Q3 ys3 H4 nQ3 sQ3 gQ3 hQ3 => ?_)
            have lq := TmsAt.len hQ3
            rw [List.length_map] at lq
            have lr := rowS_len rs i
            have sm4 := sm2.trans (sTw.trans sQ3)
            have gF4 := sQ3 _ _ (sTw _ _ gF3)
            have hz4 := (TmsAt.sm hz3 sTw).sm sQ3
            clear hz3
            refine w_catM gF4 hz4 gQ3 hQ3 (by omega) (fun F2 H5 nF2 sF2 gF5 hF5 => ?_)
            have nn2 := (S6.sm sm4).new nF2
            have nH2 : H F2 = none := (sA6.trans sm4).free nF2
            repeat' (tm_at "rs")
            refine ⟨F2, _, _, _, rfl, nn2, nH2, sm4.trans sF2, gF5, by rw [List.length_append]; omega, ?_⟩
            rw [rowsS_succ, ← List.append_assoc, List.map_append]
            exact hF5
          · rintro σ2 H2 ⟨Fx, x22, x23, zs2, rfl, ⟨n1, n2, n3, n4, n5⟩, nH, sm, gF2, hl2, hz2⟩
            rw [hul] at hl2 hz2
            have S7 := S6.sm sm
            have sA7 := sA6.trans sm
            clear S6 sA6 sm gF hz hl
            repeat' (tm_at "rs")
            refine loopR (fun j σ3 H3 => ∃ (x24 x26 x27 x28 x29 : Option V) (zs : List V), σ3 = [some (.int (m : Nat)), some (.ref p), some (.ref A1), some (.ref A2), some vs_, some vc, some vh, some vd, some vq, some vg, some vi, some vm, none, some (.ref X), some (.ref Y), some (.ref R), some (.ref L), some (.ref u135), some (.ref Fx), none, none, some (.ref D), x22, x23, x24, x25, x26, x27, x28, x29] ∧ Kp Fx H2 H3 ∧ H3 Fx = some (.lst zs) ∧ zs.length ≤ 136 + j ∧ TmsAt K H3 zs ((p1S m rs ++ (asked m rs).map askS ++ rowsS rs rs.length ++ (List.range j).map (boxS rs)).map opS)) ?_ ?_ ?_
            · exact ⟨_, _, _, _, _, zs2, rfl, Kp.refl _, gF2, by omega, by show TmsAt K H2 zs2 ((_ ++ []).map opS); rw [List.append_nil]; exact hz2⟩
            · rintro j σ3 H3 hj ⟨x24, x26, x27, x28, x29, zs3, rfl, kF, gF3, hl3, hz3⟩
              rw [Int.toNat_natCast] at hj
              have S8 := S7.kp gF2 kF n1 n2 n3 n4 n5
              clear hz2
              rw [Int.zero_add]
              repeat' (tm_at "rs")
              refine lcPlc (.up j) S8.hp S8.hR S8.gL S8.hL (by omega) (by omega) (fun D i t T r H' R1 R0 gT gt gl hl hi k1 k0 => ?_) (fun D1 zsu H4 nD1 sD1 gD1 hD1 lD1 => ?_)
              · repeat' (tm_at "rs")
                rename_i q2 H5 n5 s5 g5
                refine w_eqRow (r := r) (q := .up j) (s5 _ _ gt) g5 ?_
                repeat' (tm_at "rs")
                · rename_i e
                  refine w_ixM (i := i) (s5 _ _ gl) (TmsAt.sm hl s5) (lsg hi) (fun v hv => ?_)
                  exact k1 e v _ s5 hv
                · rename_i e
                  exact k0 e _ s5
              have S9 := S8.sm sD1
              have gF4 := sD1 _ _ gF3
              have hz4 := TmsAt.sm hz3 sD1
              have k4 : Kp Fx H2 H4 := Kp.trans kF (Kp.of sD1)
              clear hz3 S8
              repeat' (tm_at "rs")
              refine lcPlc (.dn j) S9.hp S9.hR S9.gL S9.hL (by omega) (by omega) (fun D i t T r H' R1 R0 gT gt gl hl hi k1 k0 => ?_) (fun D2 zsd H5 nD2 sD2 gD2 hD2 lD2 => ?_)
              · repeat' (tm_at "rs")
                rename_i q2 H5 n5 s5 g5
                refine w_eqRow (r := r) (q := .dn j) (s5 _ _ gt) g5 ?_
                repeat' (tm_at "rs")
                · rename_i e
                  refine w_ixM (i := i) (s5 _ _ gl) (TmsAt.sm hl s5) (lsg hi) (fun v hv => ?_)
                  exact k1 e v _ s5 hv
                · rename_i e
                  exact k0 e _ s5
              obtain ⟨gp2, hR2, gX2, hX2, gY2, hY2, gR2, hW2, gL2, hL2, t1, t2, tc, ts, tq, ti, tk⟩ := S9.sm sD2
              have gF5 := sD2 _ _ gF4
              have hz5 := TmsAt.sm hz4 sD2
              have gU := sD2 _ _ gD1
              have hU := TmsAt.sm hD1 sD2
              have k5 : Kp Fx H2 H5 := Kp.trans k4 (Kp.of sD2)
              clear hz4 gF4 hD1 gD1 k4 kF S9 hL2 gL2 gp2 hR2
              repeat' (tm_at "rq")
              rename_i H6 k6 g6 h6
              have e6 : (p1S m rs ++ (asked m rs).map askS ++ rowsS rs rs.length ++ (List.range (j + 1)).map (boxS rs)).map opS = (p1S m rs ++ (asked m rs).map askS ++ rowsS rs rs.length ++ (List.range j).map (boxS rs)).map opS ++ [opS (boxS rs j)] := by simp only [List.range_succ, List.map_append, List.append_assoc, List.map_cons, List.map_nil]
              refine ⟨_, _, _, _, _, _, rfl, by tm_at "rkp", g6, by rw [List.length_append]; show zs3.length + 1 ≤ _; omega, ?_⟩
              rw [e6]
              exact h6
            · rintro σ3 H3 ⟨x24, x26, x27, x28, x29, zs3, rfl, kF, gF3, hl3, hz3⟩
              rw [Int.toNat_natCast, p1_sys] at hz3
              repeat' (tm_at "rs")
              exact k Fx zs3 H3 nH (sm_mut sA7 nH kF) gF3 hz3
/-! ### Saying.__init__ -/
theorem ok_f_Saying__init {f : Addr} {fd : FuncData} (F : Fun K "__init__" "Saying.__init__" s_f_Saying__init f fd) {a_WORDS : Addr}
    (c_WORDS : mg "WORDS" = some (.ref a_WORDS))
    (d_WORDS : KDs K w a_WORDS ["same", "under"]) :
    FnG P w K mg base CX0 1 f fd ["self", "word", "left", "right"] (sp_f_Saying__init K) := by
  refine okG F sc_f_Saying__init (fun vs H Q E h => ?_) (fun cdv A outer s H vs Q E hr h => ⟨_, (pss_cons (ps_if (pt_cmp (pc_niK (pv 1) (pe_glob (v := .ref a_WORDS) rfl c_WORDS rfl))) (pss_one ps_never) pss_nil)
    (pss_cons (ps_fld (pv 0) (pv 1) rfl)
    (pss_cons (ps_fld (pv 0) (pv 2) rfl)
    (pss_one (ps_fld (pv 0) (pv 3) rfl))))), ?_⟩)
  · obtain ⟨_, _, _, _, _, _, rfl, _⟩ := h
    rfl
  · obtain ⟨p, C, dx, w, l, r, rfl, hp, hC, hw, k⟩ := h
    try dsimp only [cxOf, Cx.nox, Cx.wish]
    change (_ : L2.TS) _ [some (.ref p), some (.str w), some (l), some (r)] _
    refine w_start ?_
    repeat' (tm_at "rs")
    refine w_nie d_WORDS (by rcases hw with rfl | rfl <;> simp) ?_
    repeat' (tm_at "rs")
    refine w_sfldE hp hC.cl (hC.na _ (by simp)) (by show 0 < 1000; decide) (fun H1 k1 g1 => ?_)
    repeat' (tm_at "rs")
    refine w_sfldE g1 hC.cl (hC.na _ (by simp)) (by show 1 < 1000; decide) (fun H2 k2 g2 => ?_)
    repeat' (tm_at "rs")
    refine w_sfldE g2 hC.cl (hC.na _ (by simp)) (by show 2 < 1000; decide) (fun H3 k3 g3 => ?_)
    repeat' (tm_at "rs")
    exact k _ (Kp.trans k1 (Kp.trans k2 k3)) g3
/-! ### let_by -/
theorem ok_f_let_by {f : Addr} {fd : FuncData} (F : Fun K "let_by" "let_by" s_f_let_by f fd) {t_MOST_BITS : Tok}
    (c_MOST_BITS : mg "MOST_BITS" = some (.int 1000000 t_MOST_BITS)) :
    FnG P w K mg base CX0 1 f fd ["number"] (sp_f_let_by K) := by
  refine okG F sc_f_let_by (fun vs H Q E h => ?_) (fun cdv A outer s H vs Q E hr h => ⟨_, (pss_cons (ps_if (pt_cmpR op_gGt (pe_bits (pv 0)) (pe_glob (v := .int 1000000) rfl c_MOST_BITS ⟨_, rfl⟩) (nomark _)) (pss_one ps_never) pss_nil)
    (pss_one (ps_ret (pv 0)))), ?_⟩)
  · obtain ⟨_, _, rfl, _⟩ := h
    rfl
  · obtain ⟨x, m, rfl, hx, hm, k⟩ := h
    try dsimp only [cxOf, Cx.nox, Cx.wish]
    change (_ : L2.TS) _ [some (.int x)] _
    refine w_start ?_
    have hb := PyProof.Rows.intBits_le hx
    repeat' (tm_at "rs")
    · rename_i b hb1 hb2 hb3
      exact False.elim (by omega)
    · exact k
/-! ### power_of -/
theorem ok_f_power_of {f : Addr} {fd : FuncData} (F : Fun K "power_of" "power_of" s_f_power_of f fd) {t_MOST_BITS : Tok}
    (D_f_let_by : Def P w K mg base CX0 "let_by" 1 ["number"] (sp_f_let_by K))
    (m_int : mg "int" = none)
    (c_MOST_BITS : mg "MOST_BITS" = some (.int 1000000 t_MOST_BITS)) :
    FnG P w K mg base CX0 2 f fd ["base", "n"] (sp_f_power_of K) := by
  refine okG F sc_f_power_of (fun vs H Q E h => ?_) (fun cdv A outer s H vs Q E hr h => ⟨_, (pss_cons (ps_if (pt_cmpR op_gLt (pv 0) pe_int (nomark _)) (pss_one (ps_ret (pe_callTy call_gInt (by rfl) m_int PyProof.Rows.boot_int (pa_cons (pe_or (pe_cmpR (op_gEq (K := K) rfl hr.units) (pv 0) pe_int (nomark _)) (pe_one (pe_cmpR (op_gEq (K := K) rfl hr.units) (pv 1) pe_int (nomark _)))) pa_nil)))) pss_nil)
    (pss_cons (ps_if (pt_cmpR op_gGe (pe_op op_gMul (pv 1) (pe_op op_sub (pe_bits (pv 0)) pe_int)) (pe_glob (v := .int 1000000) rfl c_MOST_BITS ⟨_, rfl⟩) (nomark _)) (pss_one ps_never) pss_nil)
    (pss_cons (ps_set (i := 2) sc_f_power_of.nd rfl (by first | exact Or.inl rfl | exact Or.inr rfl) pe_int)
    (pss_cons (ps_while PassesOwn.never (pt_cmpR op_gGt (pv 1) pe_int (nomark _)) (pss_cons (ps_if (pt_cmpR (op_gEq (K := K) rfl hr.units) (pe_op op_gAnd (pv 1) pe_int) pe_int (nomark _)) (pss_one (ps_aug (i := 2) sc_f_power_of.nd rfl (by first | exact Or.inl rfl | exact Or.inr rfl) (pv 0) ip_gMul)) pss_nil)
    (pss_cons (ps_aug (i := 1) sc_f_power_of.nd rfl (by first | exact Or.inl rfl | exact Or.inr rfl) pe_int ip_gShr)
    (pss_one (ps_if (pt_cmpR op_gGt (pv 1) pe_int (nomark _)) (pss_one (ps_aug (i := 0) sc_f_power_of.nd rfl (by first | exact Or.inl rfl | exact Or.inr rfl) (pv 0) ip_gMul)) pss_nil)))))
    (pss_one (ps_ret (pe_f D_f_let_by (hr.mono (by omega)) (by rfl) pass0 (pa_cons (pv 2) pa_nil)))))))), ?_⟩)
  · obtain ⟨_, _, _, rfl, _⟩ := h
    rfl
  · obtain ⟨b, e, m, rfl, hb, m1, hm, k⟩ := h
    try dsimp only [cxOf, Cx.nox, Cx.wish]
    change (_ : L2.TS) _ [some (.int (b : Int)), some (.int (e : Int)), none] _
    refine w_start ?_
    have bb := PyProof.Rows.intBits_le (a := (b : Int)) (k := m) (by rw [Int.natAbs_natCast]; exact hb)
    obtain ⟨hm, r, hbe, hr⟩ := hm
    have he : b < 2 ∨ (2 ≤ b ∧ e ≤ 1000000) := by
      rcases Nat.lt_or_ge b 2 with h | h
      · exact .inl h
      · refine .inr ⟨h, ?_⟩
        have m2 : 2 ≤ m := by
          rcases Nat.lt_or_ge m 2 with q | q
          · have : m = 1 := by omega
            subst this
            omega
          · exact q
        have := Nat.le_mul_of_pos_right e (show 0 < m - 1 by omega)
        omega
    rcases he with he | ⟨hb2, he⟩
    · repeat' (tm_at "rs")
      all_goals first | (exfalso; omega) | skip
      all_goals rename_i h0 h1 h2
      · have h : b = 1 := by omega
        rw [h, Nat.one_pow] at k
        exact k
      · cases h2
      · have h : e = 0 := by omega
        rw [h, Nat.pow_zero] at k
        exact k
      · have h : b = 0 := by omega
        rw [h, Nat.zero_pow (by omega)] at k
        exact k
    repeat' (tm_at "rs")
    all_goals first | (exfalso; omega) | skip
    · rename_i h0 β h1 h2 h3
      refine False.elim ?_
      have q1 : (e : Int) * ((β : Int) - 1) ≤ (e : Int) * ((m - 1 : Nat) : Int) := Int.mul_le_mul_of_nonneg_left (by omega) (by omega)
      rw [← Int.natCast_mul e (m - 1)] at q1
      generalize (e : Int) * ((β : Int) - 1) = X at *
      generalize e * (m - 1) = Y at *
      omega
    · rename_i h0 β h1 h2 h3
      refine w_while (fun M σ' H' => ∃ B N F : Nat, σ' = [some (.int (B : Int)), some (.int (N : Int)), some (.int (F : Int))] ∧ H' = H ∧ F * B ^ N = b ^ e ∧ 2 ≤ B ∧ 1 ≤ F ∧ M = N) e ⟨b, e, 1, rfl, rfl, Nat.one_mul _, by omega, by omega, rfl⟩ ?_
      rintro M σ' H' ⟨B, N, F, rfl, rfl, hP, hB2, hF1, rfl⟩
      have hBN : 1 ≤ B ^ M := Nat.pow_pos (by omega)
      have hFP : F ≤ b ^ e := by
        rw [← hP]
        exact Nat.le_mul_of_pos_right F hBN
      have hFb : F < 2 ^ r := Nat.lt_of_le_of_lt hFP hbe
      rcases Nat.eq_zero_or_pos M with h0 | h0
      · subst h0
        repeat' (tm_at "rs")
        all_goals first | (exfalso; omega) | skip
        · rw [Nat.pow_zero, Nat.mul_one] at hP
          refine call_let_by (m := r) ?_ hr ?_
          · rw [Int.natAbs_natCast, hP]
            exact hbe
          · repeat' (tm_at "rs")
            rw [hP]
            exact k
      · have hBP : B ≤ b ^ e := by
          rw [← hP]
          have q1 : B ^ 1 ≤ B ^ M := Nat.pow_le_pow_right (by omega) h0
          rw [Nat.pow_one] at q1
          exact Nat.le_trans q1 (Nat.le_mul_of_pos_left _ hF1)
        have hBb : B < 2 ^ r := Nat.lt_of_le_of_lt hBP hbe
        have hc1 : CM (F : Int) (B : Int) := .inr (mulx_ok (a := r) (b := r) (by rw [Int.natAbs_natCast]; exact hFb) (by rw [Int.natAbs_natCast]; exact hBb) (by omega))
        have hc2 : CM (B : Int) (B : Int) := .inr (mulx_ok (a := r) (b := r) (by rw [Int.natAbs_natCast]; exact hBb) (by rw [Int.natAbs_natCast]; exact hBb) (by omega))
        repeat' (tm_at "rs")
        · rename_i c0 z z1 z2 z3 z4 z5 c1
          have hz : z = ((M % 2 : Nat) : Int) := by
            rw [z1, and_one (by omega)]
            rfl
          exact ⟨M / 2, by omega, B * B, M / 2, F * B, rfl, rfl, by rw [pw_odd (by omega)]; exact hP, Nat.le_trans hB2 (Nat.le_mul_of_pos_left _ (by omega)), Nat.mul_pos hF1 (by omega), rfl⟩
        · rename_i c0 z z1 z2 z3 z4 z5 c1
          have hM : M = 1 := by omega
          subst hM
          rw [Nat.pow_one] at hP
          exact ⟨0, by omega, B, 0, F * B, rfl, rfl, by rw [Nat.pow_zero, Nat.mul_one]; exact hP, hB2, Nat.mul_pos hF1 (by omega), rfl⟩
        · rename_i c0 z z1 z2 z3 z4 z5 c1
          have hz : z = ((M % 2 : Nat) : Int) := by
            rw [z1, and_one (by omega)]
            rfl
          exact ⟨M / 2, by omega, B * B, M / 2, F, rfl, rfl, by rw [pw_even (by omega)]; exact hP, Nat.le_trans hB2 (Nat.le_mul_of_pos_left _ (by omega)), hF1, rfl⟩
        · rename_i c0 z z1 z2 z3 z4 z5 c1
          have hz : z = ((M % 2 : Nat) : Int) := by
            rw [z1, and_one (by omega)]
            rfl
          exfalso
          omega
        · rename_i c0
          exfalso
          omega
/-! ### product -/
theorem ok_f_product {f : Addr} {fd : FuncData} (F : Fun K "product" "product" s_f_product f fd) {t_MOST_BITS : Tok}
    (D_f_let_by : Def P w K mg base CX0 "let_by" 1 ["number"] (sp_f_let_by K))
    (c_MOST_BITS : mg "MOST_BITS" = some (.int 1000000 t_MOST_BITS)) :
    FnG P w K mg base CX0 2 f fd ["one", "other"] (sp_f_product K) := by
  refine okG F sc_f_product (fun vs H Q E h => ?_) (fun cdv A outer s H vs Q E hr h => ⟨_, (pss_cons (ps_if (PW.pt (pw_or (pt_cmpR (op_gEq (K := K) rfl hr.units) (pv 0) pe_int (nomark _)) (pw_or1 (pt_cmpR (op_gEq (K := K) rfl hr.units) (pv 1) pe_int (nomark _))))) (pss_one (ps_ret pe_int)) pss_nil)
    (pss_cons (ps_if (pt_cmpR op_gGt (pe_op (op_gAdd (K := K) rfl) (pe_bits (pv 0)) (pe_bits (pv 1))) (pe_op (op_gAdd (K := K) rfl) (pe_glob (v := .int 1000000) rfl c_MOST_BITS ⟨_, rfl⟩) pe_int) (nomark _)) (pss_one ps_never) pss_nil)
    (pss_one (ps_ret (pe_f D_f_let_by (hr.mono (by omega)) (by rfl) pass0 (pa_cons (pe_op op_gMul (pv 0) (pv 1)) pa_nil)))))), ?_⟩)
  · obtain ⟨_, _, _, _, rfl, _⟩ := h
    rfl
  · obtain ⟨x, y, n, m, rfl, hx, hy, hm, k⟩ := h
    try dsimp only [cxOf, Cx.nox, Cx.wish]
    change (_ : L2.TS) _ [some (.int (x : Int)), some (.int (y : Int))] _
    refine w_start ?_
    have bx := PyProof.Rows.intBits_le (a := (x : Int)) (k := n) (by rw [Int.natAbs_natCast]; exact hx)
    have by' := PyProof.Rows.intBits_le (a := (y : Int)) (k := m) (by rw [Int.natAbs_natCast]; exact hy)
    have hc : CM (x : Int) (y : Int) := .inr (mulx_ok (a := n) (b := m) (by rw [Int.natAbs_natCast]; exact hx) (by rw [Int.natAbs_natCast]; exact hy) (by omega))
    repeat' (tm_at "rs")
    · rename_i h
      have h : x = 0 := by omega
      rw [h, Nat.zero_mul] at k
      exact k
    · rename_i h0 h
      have h : y = 0 := by omega
      rw [h, Nat.mul_zero] at k
      exact k
    · exact False.elim (by omega)
    · refine call_let_by (m := n + m) ?_ hm ?_
      · rw [← Int.natCast_mul, Int.natAbs_natCast, Nat.pow_add]
        exact Nat.mul_lt_mul'' hx hy
      · repeat' (tm_at "rs")
        rw [← Int.natCast_mul]
        exact k
/-! ### come_to -/
theorem ok_f_come_to {f : Addr} {fd : FuncData} (F : Fun K "come_to" "come_to" s_f_come_to f fd)
    (D_f_power_of : Def P w K mg base CX0 "power_of" 2 ["base", "n"] (sp_f_power_of K))
    (D_f_let_by : Def P w K mg base CX0 "let_by" 1 ["number"] (sp_f_let_by K))
    (D_f_product : Def P w K mg base CX0 "product" 2 ["one", "other"] (sp_f_product K)) :
    FnG P w K mg base CX0 3 f fd ["word", "one", "other"] (sp_f_come_to K) := by
  refine okG F sc_f_come_to (fun vs H Q E h => ?_) (fun cdv A outer s H vs Q E hr h => ⟨_, (pss_cons (ps_if (pt_cmpR (op_gEq (K := K) rfl hr.units) (pv 0) pe_str (nomark _)) (pss_one (ps_ret (pe_f D_f_let_by (hr.mono (by omega)) (by rfl) pass0 (pa_cons (pe_op (op_gAdd (K := K) rfl) (pv 1) (pv 2)) pa_nil)))) pss_nil)
    (pss_cons (ps_if (pt_cmpR (op_gEq (K := K) rfl hr.units) (pv 0) pe_str (nomark _)) (pss_one (ps_ret (pe_f D_f_product (hr.mono (by omega)) (by rfl) pass0 (pa_cons (pv 1) (pa_cons (pv 2) pa_nil))))) pss_nil)
    (pss_one (ps_ret (pe_f D_f_power_of (hr.mono (by omega)) (by rfl) pass0 (pa_cons (pv 1) (pa_cons (pv 2) pa_nil))))))), ?_⟩)
  · obtain ⟨_, _, _, rfl, _⟩ := h
    rfl
  · obtain ⟨w, x, y, rfl, hc, k⟩ := h
    try dsimp only [cxOf, Cx.nox, Cx.wish]
    change (_ : L2.TS) _ [some (.str w), some (.int (x : Int)), some (.int (y : Int))] _
    refine w_start ?_
    obtain ⟨n, n1, hx, hc⟩ := hc
    repeat' (tm_at "rs")
    · rename_i hw
      subst hw
      have hy : y < 2 ^ n ∧ n + 1 ≤ 1000000 := by
        rcases hc with ⟨_, h1, h2⟩ | ⟨h, _⟩ | ⟨h, _⟩
        · exact ⟨h1, h2⟩
        · exact absurd h (by decide)
        · exact absurd rfl h
      refine call_let_by (m := n + 1) ?_ hy.2 ?_
      · rw [← Int.natCast_add, Int.natAbs_natCast, Nat.pow_succ]
        omega
      · repeat' (tm_at "rs")
        rw [← Int.natCast_add]
        exact k
    · rename_i h0 hw
      subst hw
      obtain ⟨m, hy, hm⟩ : ∃ m : Nat, y < 2 ^ m ∧ n + m ≤ 1000000 := by
        rcases hc with ⟨h, _⟩ | ⟨_, h⟩ | ⟨_, h, _⟩
        · exact absurd h (by decide)
        · exact h
        · exact absurd rfl h
      refine call_product hx hy hm ?_
      repeat' (tm_at "rs")
      exact k
    · rename_i h0 h1
      have hm : PwOk x y n := by
        rcases hc with ⟨h, _⟩ | ⟨h, _⟩ | ⟨_, _, h⟩
        · exact absurd h h0
        · exact absurd h h1
        · exact h
      refine call_power_of hx n1 hm ?_
      repeat' (tm_at "rs")
      unfold cm at k
      rw [if_neg h0, if_neg h1] at k
      exact k
/-! ### number_of -/
theorem ok_f_number_of {f : Addr} {fd : FuncData} (F : Fun K "number_of" "number_of" s_f_number_of f fd) :
    FnG P w K mg base CX0 1 f fd ["name", "answer"] (sp_f_number_of K) := by
  refine okG F sc_f_number_of (fun vs H Q E h => ?_) (fun cdv A outer s H vs Q E hr h => ⟨_, (pss_one (ps_try_thru0 (pss_one (ps_ret (pe_dget (u_one hr.units) (pv 1) (pv 0) (fun _ _ => rfl)))))), ?_⟩)
  · obtain ⟨_, _, _, _, rfl, _⟩ := h
    rfl
  · obtain ⟨s, d, kvs, x, rfl, hd, hv, k⟩ := h
    try dsimp only [cxOf, Cx.nox, Cx.wish]
    change (_ : L2.TS) _ [some (.str s), some (.ref d), none] _
    refine w_start ?_
    repeat' (tm_at "rs")
    exact k
/-! ### worth -/
theorem ok_f_worth {f : Addr} {fd : FuncData} (F : Fun K "worth" "worth" s_f_worth f fd)
    (D_f_come_to : Def P w K mg base CX0 "come_to" 3 ["word", "one", "other"] (sp_f_come_to K))
    (D_f_let_by : Def P w K mg base CX0 "let_by" 1 ["number"] (sp_f_let_by K))
    (D_f_number_of : Def P w K mg base CX0 "number_of" 1 ["name", "answer"] (sp_f_number_of K))
    (m_len : mg "len" = none) :
    FnG P w K mg base CX0 4 f fd ["term", "answer"] (sp_f_worth K) := by
  refine okG F sc_f_worth (fun vs H Q E h => ?_) (fun cdv A outer s H vs Q E hr h => ⟨_, (pss_cons (ps_set (i := 2) sc_f_worth.nd rfl (by first | exact Or.inl rfl | exact Or.inr rfl) (pe_lst pa_nil))
    (pss_cons (ps_set (i := 3) sc_f_worth.nd rfl (by first | exact Or.inl rfl | exact Or.inr rfl) (pe_lst (pa_cons (pe_tup (pa_cons (pv 0) (pa_cons pe_bl pa_nil))) pa_nil)))
    (pss_cons (ps_while PassesOwn.never (pt_cmpR op_gGt (pe_callB (call_gLen (K := K) rfl) (by rfl) m_len PySem.boot_len (pa_cons (pv 3) pa_nil)) pe_int (nomark _)) (pss_cons (ps_asg (pe_gbm0 (K := K) rfl PySem.F.plainAttrs_list PySem.F.slot_list_pop PySem.F.type_list_pop mt_pop (pv 3)) (pg_gt (K := K) (n := 2) rfl rfl (pgs_cons (pg_name (i := 4) sc_f_worth.nd rfl (by first | exact Or.inl rfl | exact Or.inr rfl)) (pgs_cons (pg_name (i := 5) sc_f_worth.nd rfl (by first | exact Or.inl rfl | exact Or.inr rfl)) pgs_nil))))
    (pss_one (ps_if (pt_val (pv 5)) (pss_cons (ps_set (i := 6) sc_f_worth.nd rfl (by first | exact Or.inl rfl | exact Or.inr rfl) (pe_gbm0 (K := K) rfl PySem.F.plainAttrs_list PySem.F.slot_list_pop PySem.F.type_list_pop mt_pop (pv 2)))
    (pss_one (ps_expr (pe_gbm (K := K) rfl PySem.F.plainAttrs_list PySem.F.slot_list_append PySem.F.type_list_append mt_append (pv 2) (pa_cons (pe_f D_f_come_to (hr.mono (by omega)) (by rfl) pass0 (pa_cons (pe_ix (ix_g (K := K) rfl) (pv 4) pe_int (fun _ _ => rfl)) (pa_cons (pe_gbm0 (K := K) rfl PySem.F.plainAttrs_list PySem.F.slot_list_pop PySem.F.type_list_pop mt_pop (pv 2)) (pa_cons (pv 6) pa_nil)))) pa_nil))))) (pss_one (ps_if (pt_cmpR (op_gEq (K := K) rfl hr.units) (pe_ix (ix_g (K := K) rfl) (pv 4) pe_int (fun _ _ => rfl)) pe_str (nomark _)) (pss_one (ps_expr (pe_gbm (K := K) rfl PySem.F.plainAttrs_list PySem.F.slot_list_append PySem.F.type_list_append mt_append (pv 2) (pa_cons (pe_f D_f_let_by (hr.mono (by omega)) (by rfl) pass0 (pa_cons (pe_ix (ix_g (K := K) rfl) (pv 4) pe_int (fun _ _ => rfl)) pa_nil)) pa_nil)))) (pss_one (ps_if (pt_cmpR (op_gEq (K := K) rfl hr.units) (pe_ix (ix_g (K := K) rfl) (pv 4) pe_int (fun _ _ => rfl)) pe_str (nomark _)) (pss_one (ps_expr (pe_gbm (K := K) rfl PySem.F.plainAttrs_list PySem.F.slot_list_append PySem.F.type_list_append mt_append (pv 2) (pa_cons (pe_f D_f_let_by (hr.mono (by omega)) (by rfl) pass0 (pa_cons (pe_f D_f_number_of (hr.mono (by omega)) (by rfl) pass0 (pa_cons (pe_ix (ix_g (K := K) rfl) (pv 4) pe_int (fun _ _ => rfl)) (pa_cons (pv 1) pa_nil))) pa_nil)) pa_nil)))) (pss_one (ps_expr (pe_gbm (K := K) rfl PySem.F.plainAttrs_list PySem.F.slot_list_extend PySem.F.type_list_extend mt_extend (pv 3) (pa_cons (pe_lst (pa_cons (pe_tup (pa_cons (pv 4) (pa_cons pe_bl pa_nil))) (pa_cons (pe_tup (pa_cons (pe_ix (ix_g (K := K) rfl) (pv 4) pe_int (fun _ _ => rfl)) (pa_cons pe_bl pa_nil))) (pa_cons (pe_tup (pa_cons (pe_ix (ix_g (K := K) rfl) (pv 4) pe_int (fun _ _ => rfl)) (pa_cons pe_bl pa_nil))) pa_nil)))) pa_nil))))))))))))
    (pss_one (ps_ret (pe_ix (ix_g (K := K) rfl) (pv 2) pe_int (fun _ _ => rfl))))))), ?_⟩)
  · obtain ⟨_, _, _, _, _, rfl, _⟩ := h
    rfl
  · obtain ⟨v, d, t, kvs, g, rfl, hv, hd, ht, hw, k⟩ := h
    try dsimp only [cxOf, Cx.nox, Cx.wish]
    change (_ : L2.TS) _ [some (v), some (.ref d), none, none, none, none, none] _
    refine w_start ?_
    repeat' (tm_at "rs")
    rename_i M H1 nM sM gM q0 H2 nq sq gq L H3 nL sL gL
    have ML : M ≠ L := ne_of_none (sq _ _ gM) nL
    have nM0 : H M = none := nM
    have nL0 : H L = none := sM.free (sq.free nL)
    have gq3 := sL _ _ gq
    have gM3 := sL _ _ (sq _ _ gM)
    have hv3 : TmAt K H3 t v := ((hv.sm sM).sm sq).sm sL
    have sm3 : Sm H H3 := Same.trans sM (Same.trans sq sL)
    refine w_while (fun m σ' H' => ∃ (x4 x5 x6 : Option V) (S : List (Tm × Bool)) (N : List Nat) (qs : List V), σ' = [some v, some (.ref d), some (.ref M), some (.ref L), x4, x5, x6] ∧ H' L = some (.lst qs) ∧ Paired (StAt K H') qs S ∧ H' M = some (.lst (nV N)) ∧ WkOk kvs g (ev g t) S.reverse N.reverse ∧ wks S.reverse + N.length ≤ t.wt ∧ Sm H H' ∧ m = wks S.reverse) _ ⟨_, _, _, [(t, false)], [], [.ref q0], rfl, gL, .cons ⟨q0, v, rfl, gq3, hv3⟩ .nil, gM3, ⟨ht, rfl⟩, by show t.wt + 0 + 0 ≤ t.wt; omega, sm3, rfl⟩ ?_
    rintro m σ' H' ⟨x4, x5, x6, S, N, qs, rfl, hL, hP, hM, hW, hB, hS, rfl⟩
    have hdd := hS _ _ hd
    have dL : d ≠ L := ne_of hdd hL (by intro z; cases z)
    have dM : d ≠ M := ne_of hdd hM (by intro z; cases z)
    have hNl : (nV N).length ≤ 10000 := by rw [nV_len]; omega
    have hql : qs.length ≤ 10000 := by
      have h1 := paired_len hP
      have h2 := wks_len S.reverse
      rw [List.length_reverse] at h2
      omega
    rcases List.eq_nil_or_concat S with rfl | ⟨S', s, rfl⟩
    · cases hP
      have hN : N = [ev g t] := by
        have h : N.reverse = [ev g t] := hW
        rw [← List.reverse_reverse N, h]
        rfl
      subst hN
      have hM1 : H' M = some (.lst [V.int ((ev g t : Nat) : Int)]) := hM
      have c0 : ¬ (0 : Int) < (([] : List V).length : Int) := by decide
      repeat' (tm_at "rs")
      all_goals first | contradiction | exact k _ hS
    · rw [List.concat_eq_append] at *
      obtain ⟨qs', q, rfl, hP', p, x, rfl, gp, tx⟩ := paired_last hP
      rw [List.reverse_append] at hW hB
      have pL : p ≠ L := ne_of gp hL (by intro z; cases z)
      have pM : p ≠ M := ne_of gp hM (by intro z; cases z)
      have hlen : (qs' ++ [V.ref p]).length = qs'.length + 1 := by rw [List.length_append]; rfl
      rw [hlen] at hql
      have c0 : (0 : Int) < ((qs' ++ [V.ref p]).length : Int) := by rw [hlen]; omega
      obtain ⟨t', k'⟩ := s
      have hm : wks (S' ++ [(t', k')]).reverse = wk (t', k') + wks S'.reverse := by
        rw [List.reverse_append]
        rfl
      rw [hm]
      have hB : wk (t', k') + wks S'.reverse + N.length ≤ t.wt := hB
      cases k' with
      | true =>
        obtain ⟨w, a, b, x', y', N', rfl, hN, hc, hW'⟩ := hW
        obtain ⟨p2, xa, xb, rfl, gp2, ta, tb⟩ := tx
        have hN2 : N = (N'.reverse ++ [x']) ++ [y'] := by
          rw [← List.reverse_reverse N, hN]
          simp
        subst hN2
        rw [nV_snoc, nV_snoc] at hM
        rw [List.length_append, List.length_append] at hB
        have hB : 1 + wks S'.reverse + (N'.reverse.length + 1 + 1) ≤ t.wt := hB
        have hz : (nV N'.reverse).length ≤ 10000 := by rw [nV_len]; omega
        repeat' (tm_at "rs")
        all_goals first | contradiction | skip
        refine call_come_to hc ?_
        repeat' (tm_at "rs")
        rename_i Ha ka ga Hb kb gb Hc kc gc Hd kd gd
        have hT : Tk H' Hd := fun p xs q => tup_kpL gc kd _ _ (tup_kpL gb kc _ _ (tup_kpL (ka _ _ ML hM) kb _ _ (tup_kpL hL ka _ _ q)))
        have LM : L ≠ M := ML.symm
        refine ⟨_, ?_, _, _, _, S', N'.reverse ++ [cm w x' y'], qs', rfl, by tm_at "rlk", paired_mono (fun _ _ h => h.imp hT) hP', by rw [nV_snoc]; exact gd, ?_, ?_, by tm_at "rsm", rfl⟩
        · show wks S'.reverse < 1 + wks S'.reverse
          omega
        · rw [List.reverse_append, List.reverse_reverse]
          exact hW'
        · rw [List.length_append]
          show wks S'.reverse + (N'.reverse.length + 1) ≤ t.wt
          omega
      | false =>
        obtain ⟨hT, hW'⟩ := hW
        cases t' with
        | num n =>
          obtain ⟨p2, rfl, gp2⟩ := tx
          have n1 : (Str.ofString "num") = Str.ofString "num" := rfl
          obtain ⟨r, hr1, hr2⟩ := hT
          repeat' (tm_at "rs")
          all_goals first | contradiction | skip
          refine call_let_by (m := r) (by rw [Int.natAbs_natCast]; exact hr1) hr2 ?_
          repeat' (tm_at "rs")
          rename_i Ha ka ga Hd kd gd
          have hT : Tk H' Hd := fun p xs q => tup_kpL (ka _ _ ML hM) kd _ _ (tup_kpL hL ka _ _ q)
          have LM : L ≠ M := ML.symm
          refine ⟨_, ?_, _, _, _, S', N ++ [n], qs', rfl, by tm_at "rlk", paired_mono (fun _ _ h => h.imp hT) hP', by rw [nV_snoc]; exact gd, ?_, ?_, by tm_at "rsm", rfl⟩
          · show wks S'.reverse < 1 + wks S'.reverse
            omega
          · rw [List.reverse_append]
            exact hW'
          · rw [List.length_append]
            have hB : 1 + wks S'.reverse + N.length ≤ t.wt := hB
            show wks S'.reverse + (N.length + 1) ≤ t.wt
            omega
        | name z =>
          obtain ⟨p2, rfl, gp2⟩ := tx
          have n1 : (Str.ofString "name") = Str.ofString "name" := rfl
          have n2 : ¬ (Str.ofString "name") = Str.ofString "num" := by decide
          obtain ⟨hT0, r, hr1, hr2⟩ := hT
          repeat' (tm_at "rs")
          all_goals first | contradiction | skip
          refine call_number_of (by tm_at "rlk") hT0 ?_
          repeat' (tm_at "rs")
          refine call_let_by (m := r) (by rw [Int.natAbs_natCast]; exact hr1) hr2 ?_
          repeat' (tm_at "rs")
          rename_i Ha ka ga Hd kd gd
          have hT : Tk H' Hd := fun p xs q => tup_kpL (ka _ _ ML hM) kd _ _ (tup_kpL hL ka _ _ q)
          have LM : L ≠ M := ML.symm
          refine ⟨_, ?_, _, _, _, S', N ++ [g z], qs', rfl, by tm_at "rlk", paired_mono (fun _ _ h => h.imp hT) hP', by rw [nV_snoc]; exact gd, ?_, ?_, by tm_at "rsm", rfl⟩
          · show wks S'.reverse < 1 + wks S'.reverse
            omega
          · rw [List.reverse_append]
            exact hW'
          · rw [List.length_append]
            have hB : 1 + wks S'.reverse + N.length ≤ t.wt := hB
            show wks S'.reverse + (N.length + 1) ≤ t.wt
            omega
        | op w a b =>
          obtain ⟨p2, xa, xb, rfl, gp2, ta, tb⟩ := tx
          obtain ⟨hw1, hw2, oa, ob, hc⟩ := hT
          repeat' (tm_at "rs")
          all_goals first | contradiction | skip
          rename_i cc0 Ha ka ga cc1 cc2 t1 Hb n1 s1 g1 t2 Hc n2 s2 g2 t3 Hd n3 s3 g3 l He nl sl gl Hf kf gf
          have gLe : He L = some (.lst qs') := sl _ _ (s3 _ _ (s2 _ _ (s1 _ _ ga)))
          have hT : Tk H' Hf := fun p xs q => tup_kpL gLe kf _ _ (sl _ _ (s3 _ _ (s2 _ _ (s1 _ _ (tup_kpL hL ka _ _ q)))))
          have hT1 : Hf t1 = some (.tup [.ref p2, .bl true]) := tup_kpL gLe kf _ _ (sl _ _ (s3 _ _ (s2 _ _ g1)))
          have hT2 : Hf t2 = some (.tup [xb, .bl false]) := tup_kpL gLe kf _ _ (sl _ _ (s3 _ _ g2))
          have hT3 : Hf t3 = some (.tup [xa, .bl false]) := tup_kpL gLe kf _ _ (sl _ _ g3)
          have gMf : Hf M = some (.lst (nV N)) := kf _ _ ML (sl _ _ (s3 _ _ (s2 _ _ (s1 _ _ (ka _ _ ML hM)))))
          have hrev : (S' ++ [(Tm.op w a b, true), (b, false), (a, false)]).reverse = (a, false) :: (b, false) :: (Tm.op w a b, true) :: S'.reverse := by
            rw [List.reverse_append]
            rfl
          have hB : a.wt + b.wt + 2 + wks S'.reverse + N.length ≤ t.wt := hB
          refine ⟨wks ((a, false) :: (b, false) :: (Tm.op w a b, true) :: S'.reverse), ?_, _, _, _, S' ++ [(Tm.op w a b, true), (b, false), (a, false)], N, _, rfl, gf, paired_app (paired_mono (fun _ _ h => h.imp hT) hP') (.cons ⟨t1, _, rfl, hT1, p2, xa, xb, rfl, gp2.imp hT, ta.imp hT, tb.imp hT⟩ (.cons ⟨t2, _, rfl, hT2, tb.imp hT⟩ (.cons ⟨t3, _, rfl, hT3, ta.imp hT⟩ .nil))), gMf, ?_, ?_, by tm_at "rsm", by rw [hrev]⟩
          · show a.wt + (b.wt + (1 + wks S'.reverse)) < a.wt + b.wt + 2 + wks S'.reverse
            omega
          · rw [hrev]
            exact ⟨oa, ob, w, a, b, ev g a, ev g b, N.reverse, rfl, rfl, hc, hW'⟩
          · rw [hrev]
            show a.wt + (b.wt + (1 + wks S'.reverse)) + N.length ≤ t.wt
            omega
/-! ### fits -/
theorem ok_f_fits {f : Addr} {fd : FuncData} (F : Fun K "fits" "fits" s_f_fits f fd) :
    FnG P w K mg base CX0 1 f fd ["one", "other"] (sp_f_fits K) := by
  refine okG F sc_f_fits (fun vs H Q E h => ?_) (fun cdv A outer s H vs Q E hr h => ⟨_, (pss_one (ps_ret (pe_cmpR (op_gEq (K := K) rfl hr.units) (pe_op op_gAnd (pv 0) (pv 1)) (pv 0) (nomark _)))), ?_⟩)
  · obtain ⟨_, _, rfl, _⟩ := h
    rfl
  · obtain ⟨x, y, rfl, k⟩ := h
    try dsimp only [cxOf, Cx.nox, Cx.wish]
    change (_ : L2.TS) _ [some (.int x), some (.int y)] _
    refine w_start ?_
    repeat' (tm_at "rs")
    exact k
/-! ### holds -/
theorem ok_f_holds {f : Addr} {fd : FuncData} (F : Fun K "holds" "holds" s_f_holds f fd)
    (D_f_worth : Def P w K mg base CX0 "worth" 4 ["term", "answer"] (sp_f_worth K))
    (D_f_fits : Def P w K mg base CX0 "fits" 1 ["one", "other"] (sp_f_fits K)) :
    FnG P w K mg base CX0 5 f fd ["saying", "answer"] (sp_f_holds K) := by
  refine okG F sc_f_holds (fun vs H Q E h => ?_) (fun cdv A outer s H vs Q E hr h => ⟨_, (pss_cons (ps_set (i := 2) sc_f_holds.nd rfl (by first | exact Or.inl rfl | exact Or.inr rfl) (pe_f D_f_worth (hr.mono (by omega)) (by rfl) pass0 (pa_cons (pe_fld (pv 0) rfl) (pa_cons (pv 1) pa_nil))))
    (pss_cons (ps_set (i := 3) sc_f_holds.nd rfl (by first | exact Or.inl rfl | exact Or.inr rfl) (pe_f D_f_worth (hr.mono (by omega)) (by rfl) pass0 (pa_cons (pe_fld (pv 0) rfl) (pa_cons (pv 1) pa_nil))))
    (pss_cons (ps_if (pt_cmpR (op_gEq (K := K) rfl hr.units) (pe_fld (pv 0) rfl) pe_str (nomark _)) (pss_one (ps_ret (pe_f D_f_fits (hr.mono (by omega)) (by rfl) pass0 (pa_cons (pv 2) (pa_cons (pv 3) pa_nil))))) pss_nil)
    (pss_one (ps_ret (pe_cmpR (op_gEq (K := K) rfl hr.units) (pv 2) (pv 3) (nomark _))))))), ?_⟩)
  · obtain ⟨_, _, _, _, _, _, _, _, _, rfl, _⟩ := h
    rfl
  · obtain ⟨v, d, w, l, r, a, b, kvs, g, rfl, hs, ha, hb, hd, oa, ob, wa, wb, k⟩ := h
    try dsimp only [cxOf, Cx.nox, Cx.wish]
    change (_ : L2.TS) _ [some (v), some (.ref d), none, none] _
    refine w_start ?_
    repeat' (tm_at "rs")
    refine call_worth ha hd oa wa (fun H1 s1 => ?_)
    repeat' (tm_at "rs")
    refine call_worth (hb.sm s1) (s1 _ _ hd) ob wb (fun H2 s2 => ?_)
    repeat' (tm_at "rs")
    · rename_i hw
      refine cast ?_ (k H2 (Same.trans s1 s2))
      rw [if_pos hw]
      congr 2
      refine decide_eq_decide.mpr ?_
      rw [and_nat]
      omega
    · rename_i hw
      refine cast ?_ (k H2 (Same.trans s1 s2))
      rw [if_neg hw]
      congr 2
      refine decide_eq_decide.mpr ?_
      omega
/-! ### first_wrong -/
theorem ok_f_first_wrong {f : Addr} {fd : FuncData} (F : Fun K "first_wrong" "first_wrong" s_f_first_wrong f fd)
    (D_f_holds : Def P w K mg base CX0 "holds" 5 ["saying", "answer"] (sp_f_holds K))
    (m_enumerate : mg "enumerate" = none) :
    FnG P w K mg base CX0 6 f fd ["sayings", "answer"] (sp_f_first_wrong K) := by
  refine okG F sc_f_first_wrong (fun vs H Q E h => ?_) (fun cdv A outer s H vs Q E hr h => ⟨_, (pss_cons (ps_for PassesOwn.never rfl (pi_or (pi_enum (by rfl) m_enumerate (pa_cons (pv 0) pa_nil)) (pi_enT (by rfl) m_enumerate (pa_cons (pv 0) pa_nil))) (pg_gt (K := K) (n := 2) rfl rfl (pgs_cons (pg_name (i := 2) sc_f_first_wrong.nd rfl (by first | exact Or.inl rfl | exact Or.inr rfl)) (pgs_cons (pg_name (i := 3) sc_f_first_wrong.nd rfl (by first | exact Or.inl rfl | exact Or.inr rfl)) pgs_nil))) (pss_one (ps_if (pt_not (pt_val (pe_f D_f_holds (hr.mono (by omega)) (by rfl) pass0 (pa_cons (pv 3) (pa_cons (pv 1) pa_nil))))) (pss_one (ps_ret (pv 2))) pss_nil)))
    (pss_one (ps_ret pe_non))), ?_⟩)
  · obtain ⟨_, _, _, _, _, _, rfl, _⟩ := h
    rfl
  · obtain ⟨p, d, xs, bs, kvs, g, rfl, hp, hx, hd, k⟩ := h
    try dsimp only [cxOf, Cx.nox, Cx.wish]
    change (_ : L2.TS) _ [some (.ref p), some (.ref d), none, none] _
    refine w_start ?_
    have hxl := paired_len hx
    repeat' (tm_at "rs")
    rcases hp with hp | hp
    · refine .inl ?_
      repeat' (tm_at "rs")
      refine loopEn (xs := xs) (fun i σ' H' => ∃ (x1 x2 : Option V), σ' = [some (.ref p), some (.ref d), x1, x2] ∧ Sm H H' ∧ ∀ c ∈ bs.take i, c = true) ⟨_, _, rfl, Same.refl _, fun c h => by cases h⟩ ?_ ?_ ?_
      · rintro i σ' H' hi ⟨x1, x2, rfl, hs, _⟩
        exact sq_of (hs _ _ hp)
      · rintro i x T σ' H1 H2 hi hxi ⟨x1, x2, rfl, hs, hb⟩ nT sT gT
        obtain ⟨o, ho, hok⟩ := paired_get hx hxi
        obtain ⟨w, l, r, a, b, h1, h2, h3, oa, ob, wa, wb, eo⟩ := hok.sm (hs.trans sT)
        repeat' (tm_at "rs")
        refine call_holds h1 h2 h3 ((hs.trans sT) _ _ hd) oa ob wa wb (fun H3 s3 => ?_)
        rw [← eo]
        cases ho2 : o with
        | true =>
          repeat' (tm_at "rs")
          refine ⟨_, _, rfl, hs.trans (sT.trans s3), fun c hc => ?_⟩
          rw [List.take_succ, ho, ho2] at hc
          rcases List.mem_append.mp hc with h | h
          · exact hb c h
          · exact List.mem_singleton.mp h
        | false =>
          rw [firstF_take ho hb ho2] at k
          repeat' (tm_at "rs")
          exact k _ (hs.trans (sT.trans s3))
      · rintro σ' H' ⟨x1, x2, rfl, hs, hb⟩
        rw [hxl, List.take_length] at hb
        rw [firstF_none hb] at k
        repeat' (tm_at "rs")
        exact k _ hs
    · refine .inr ?_
      repeat' (tm_at "rs")
      refine loopEt (xs := xs) (fun i σ' H' => ∃ (x1 x2 : Option V), σ' = [some (.ref p), some (.ref d), x1, x2] ∧ Sm H H' ∧ ∀ c ∈ bs.take i, c = true) ⟨_, _, rfl, Same.refl _, fun c h => by cases h⟩ ?_ ?_ ?_
      · rintro i σ' H' hi ⟨x1, x2, rfl, hs, _⟩
        exact st_of (hs _ _ hp)
      · rintro i x T σ' H1 H2 hi hxi ⟨x1, x2, rfl, hs, hb⟩ nT sT gT
        obtain ⟨o, ho, hok⟩ := paired_get hx hxi
        obtain ⟨w, l, r, a, b, h1, h2, h3, oa, ob, wa, wb, eo⟩ := hok.sm (hs.trans sT)
        repeat' (tm_at "rs")
        refine call_holds h1 h2 h3 ((hs.trans sT) _ _ hd) oa ob wa wb (fun H3 s3 => ?_)
        rw [← eo]
        cases ho2 : o with
        | true =>
          repeat' (tm_at "rs")
          refine ⟨_, _, rfl, hs.trans (sT.trans s3), fun c hc => ?_⟩
          rw [List.take_succ, ho, ho2] at hc
          rcases List.mem_append.mp hc with h | h
          · exact hb c h
          · exact List.mem_singleton.mp h
        | false =>
          rw [firstF_take ho hb ho2] at k
          repeat' (tm_at "rs")
          exact k _ (hs.trans (sT.trans s3))
      · rintro σ' H' ⟨x1, x2, rfl, hs, hb⟩
        rw [hxl, List.take_length] at hb
        rw [firstF_none hb] at k
        repeat' (tm_at "rs")
        exact k _ hs
/-! ### _law_worth -/
theorem ok_f_law_worth {m : Nat} {f : Addr} {fd : FuncData} (F : Fun K "_law_worth" "_law_worth" s_f_law_worth f fd)
    (D_f_law_worth : Def P w K mg base CX0 "_law_worth" (0 + m) ["term", "answer"] (spR_f_law_worth K m)) :
    FnG P w K mg base CX0 (0 + m + 1) f fd ["term", "answer"] (spR_f_law_worth K (m + 1)) := by
  refine okG F sc_f_law_worth (fun vs H Q E h => ?_) (fun cdv A outer s H vs Q E hr h => ⟨_, (pss_cons (ps_if (pt_cmpR (op_gEq (K := K) rfl hr.units) (pe_ix (ix_g (K := K) rfl) (pv 0) pe_int (fun _ _ => rfl)) pe_str (nomark _)) (pss_one (ps_ret (pe_ix (ix_g (K := K) rfl) (pv 0) pe_int (fun _ _ => rfl)))) pss_nil)
    (pss_cons (ps_if (pt_cmpR (op_gEq (K := K) rfl hr.units) (pe_ix (ix_g (K := K) rfl) (pv 0) pe_int (fun _ _ => rfl)) pe_str (nomark _)) (pss_one (ps_ret (pe_dget (u_one hr.units) (pv 1) (pe_ix (ix_g (K := K) rfl) (pv 0) pe_int (fun _ _ => rfl)) (fun _ _ => rfl)))) pss_nil)
    (pss_cons (ps_par (i := 2) (j := 3) rfl sc_f_law_worth.nd rfl rfl (by decide) rfl rfl (pa_cons (pe_f D_f_law_worth (hr.mono (by omega)) (by rfl) pass0 (pa_cons (pe_ix (ix_g (K := K) rfl) (pv 0) pe_int (fun _ _ => rfl)) (pa_cons (pv 1) pa_nil))) (pa_cons (pe_f D_f_law_worth (hr.mono (by omega)) (by rfl) pass0 (pa_cons (pe_ix (ix_g (K := K) rfl) (pv 0) pe_int (fun _ _ => rfl)) (pa_cons (pv 1) pa_nil))) pa_nil)) (by rfl))
    (pss_cons (ps_if (pt_cmpR (op_gEq (K := K) rfl hr.units) (pe_ix (ix_g (K := K) rfl) (pv 0) pe_int (fun _ _ => rfl)) pe_str (nomark _)) (pss_one (ps_ret (pe_op (op_gAdd (K := K) rfl) (pv 2) (pv 3)))) pss_nil)
    (pss_cons (ps_if (pt_cmpR (op_gEq (K := K) rfl hr.units) (pe_ix (ix_g (K := K) rfl) (pv 0) pe_int (fun _ _ => rfl)) pe_str (nomark _)) (pss_one (ps_ret (pe_op op_gMul (pv 2) (pv 3)))) pss_nil)
    (pss_cons (ps_set (i := 4) sc_f_law_worth.nd rfl (by first | exact Or.inl rfl | exact Or.inr rfl) pe_int)
    (pss_cons (ps_while PassesOwn.never (pt_cmpR op_gGt (pv 3) pe_int (nomark _)) (pss_cons (ps_if (pt_cmpR (op_gEq (K := K) rfl hr.units) (pe_op op_gMod (pv 3) pe_int) pe_int (nomark _)) (pss_one (ps_set (i := 4) sc_f_law_worth.nd rfl (by first | exact Or.inl rfl | exact Or.inr rfl) (pe_op op_gMul (pv 4) (pv 2)))) pss_nil)
    (pss_one (ps_par (i := 2) (j := 3) rfl sc_f_law_worth.nd rfl rfl (by decide) rfl rfl (pa_cons (pe_op op_gMul (pv 2) (pv 2)) (pa_cons (pe_op op_gDiv (pv 3) pe_int) pa_nil)) (by rfl)))))
    (pss_one (ps_ret (pv 4)))))))))), ?_⟩)
  · obtain ⟨_, _, _, _, _, rfl, _⟩ := h
    rfl
  · obtain ⟨v, d, t, kvs, g, rfl, hv, hd, ht, hm, k⟩ := h
    try dsimp only [cxOf, Cx.nox, Cx.wish]
    change (_ : L2.TS) _ [some (v), some (.ref d), none, none, none] _
    refine w_start ?_
    cases t with
    | num n =>
      obtain ⟨p, rfl, gp⟩ := hv
      have n1 : (Str.ofString "num") = Str.ofString "num" := rfl
      repeat' (tm_at "rs")
      all_goals first | contradiction | exact k
    | name s =>
      obtain ⟨p, rfl, gp⟩ := hv
      have n1 : (Str.ofString "name") = Str.ofString "name" := rfl
      have n2 : ¬ (Str.ofString "name") = Str.ofString "num" := by decide
      obtain ⟨hv, _⟩ := ht
      repeat' (tm_at "rs")
      all_goals first | contradiction | exact k
    | op w a b =>
      obtain ⟨p, x, y, rfl, gp, ta, tb⟩ := hv
      obtain ⟨w1, w2, oa, ob, n, n1, hx, hc⟩ := ht
      have hm : max a.dep b.dep + 1 ≤ m := hm
      cases m with
      | zero => exact absurd hm (by omega)
      | succ r =>
        repeat' (tm_at "rs")
        all_goals first | contradiction | skip
        refine call_lworth ta hd oa (by omega) ?_
        repeat' (tm_at "rs")
        refine call_lworth tb hd ob (by omega) ?_
        have k : Q (.int ((cm w (ev g a) (ev g b) : Nat) : Int)) H := k
        generalize ev g a = u at *
        generalize ev g b = e at *
        repeat' (tm_at "rs")
        · rename_i c1 c2 c3
          rw [c3] at k
          exact k
        · rename_i c1 c2 c3 c4
          obtain ⟨m', hy, hm'⟩ : ∃ m : Nat, e < 2 ^ m ∧ n + m ≤ 1000000 := by
            rcases hc with ⟨h, _⟩ | ⟨_, h⟩ | ⟨_, h, _⟩
            · exact absurd h c3
            · exact h
            · exact absurd c4 h
          have hcm : CM (u : Int) (e : Int) := .inr (mulx_ok (a := n) (b := m') (by rw [Int.natAbs_natCast]; exact hx) (by rw [Int.natAbs_natCast]; exact hy) (by omega))
          repeat' (tm_at "rs")
          rw [c4] at k
          exact k
        · rename_i c1 c2 c3 c4
          have hme : PwOk u e n := by
            rcases hc with ⟨h, _⟩ | ⟨h, _⟩ | ⟨_, _, h⟩
            · exact absurd h c3
            · exact absurd h c4
            · exact h
          have k : Q (.int ((u ^ e : Nat) : Int)) H := by
            unfold cm at k
            rw [if_neg c3, if_neg c4] at k
            exact k
          obtain ⟨_, r, hr1, hr⟩ := hme
          have hbe : u ^ e < 2 ^ (r + 1) := Nat.lt_trans hr1 (Nat.pow_lt_pow_right (by decide) (by omega))
          have h2N : 2 ≤ 2 ^ (r + 1) := by
            rw [Nat.pow_succ]
            have := Nat.two_pow_pos r
            omega
          refine w_while (fun M σ' H' => ∃ B N F : Nat, σ' = [some (.ref p), some (.ref d), some (.int (B : Int)), some (.int (N : Int)), some (.int (F : Int))] ∧ H' = H ∧ F * B ^ N = u ^ e ∧ ((B < 2 ∧ F < 2) ∨ (2 ≤ B ∧ 1 ≤ F)) ∧ M = N) e ⟨u, e, 1, rfl, rfl, Nat.one_mul _, by omega, rfl⟩ ?_
          rintro M σ' H' ⟨B, N, F, rfl, rfl, hP, hBF, rfl⟩
          rcases Nat.eq_zero_or_pos M with h0 | h0
          · subst h0
            repeat' (tm_at "rs")
            all_goals first | (exfalso; omega) | skip
            rw [Nat.pow_zero, Nat.mul_one] at hP
            rw [hP]
            exact k
          · have hB : B < 2 ^ (r + 1) ∧ F < 2 ^ (r + 1) := by
              rcases hBF with ⟨q1, q2⟩ | ⟨q1, q2⟩
              · exact ⟨Nat.lt_of_lt_of_le q1 h2N, Nat.lt_of_lt_of_le q2 h2N⟩
              · have e1 : B ^ 1 ≤ B ^ M := Nat.pow_le_pow_right (by omega) h0
                rw [Nat.pow_one] at e1
                have e2 : B ^ M ≤ u ^ e := by rw [← hP]; exact Nat.le_mul_of_pos_left _ q2
                have e3 : F ≤ u ^ e := by rw [← hP]; exact Nat.le_mul_of_pos_right F (Nat.pow_pos (by omega))
                exact ⟨Nat.lt_of_le_of_lt (Nat.le_trans e1 e2) hbe, Nat.lt_of_le_of_lt e3 hbe⟩
            have hc1 : CM (F : Int) (B : Int) := .inr (mulx_ok (a := r + 1) (b := r + 1) (by rw [Int.natAbs_natCast]; exact hB.2) (by rw [Int.natAbs_natCast]; exact hB.1) (by omega))
            have hc2 : CM (B : Int) (B : Int) := .inr (mulx_ok (a := r + 1) (b := r + 1) (by rw [Int.natAbs_natCast]; exact hB.1) (by rw [Int.natAbs_natCast]; exact hB.1) (by omega))
            have hBF1 : (B * B < 2 ∧ F * B < 2) ∨ (2 ≤ B * B ∧ 1 ≤ F * B) := by
              rcases hBF with ⟨q1, q2⟩ | ⟨q1, q2⟩
              · have a1 : B = 0 ∨ B = 1 := by omega
                have a2 : F = 0 ∨ F = 1 := by omega
                rcases a1 with rfl | rfl <;> rcases a2 with rfl | rfl <;> exact .inl ⟨by decide, by decide⟩
              · exact .inr ⟨Nat.le_trans q1 (Nat.le_mul_of_pos_left _ (by omega)), Nat.mul_pos q2 (by omega)⟩
            have hBF2 : (B * B < 2 ∧ F < 2) ∨ (2 ≤ B * B ∧ 1 ≤ F) := by
              rcases hBF with ⟨q1, q2⟩ | ⟨q1, q2⟩
              · have a1 : B = 0 ∨ B = 1 := by omega
                rcases a1 with rfl | rfl <;> exact .inl ⟨by decide, q2⟩
              · exact .inr ⟨Nat.le_trans q1 (Nat.le_mul_of_pos_left _ (by omega)), q2⟩
            repeat' (tm_at "rs")
            · exact ⟨M / 2, by omega, B * B, M / 2, F * B, rfl, rfl, by rw [pw2_odd (by omega)]; exact hP, hBF1, rfl⟩
            · exact ⟨M / 2, by omega, B * B, M / 2, F, rfl, rfl, by rw [pw2_even (by omega)]; exact hP, hBF2, rfl⟩
            · exfalso
              omega
/-! ### _law_holds -/
theorem ok_f_law_holds {f : Addr} {fd : FuncData} (F : Fun K "_law_holds" "_law_holds" s_f_law_holds f fd)
    (D_f_law_worth : Def P w K mg base CX0 "_law_worth" 41 ["term", "answer"] (sp_f_law_worth K)) :
    FnG P w K mg base CX0 42 f fd ["saying", "answer"] (sp_f_law_holds K) := by
  refine okG F sc_f_law_holds (fun vs H Q E h => ?_) (fun cdv A outer s H vs Q E hr h => ⟨_, (pss_cons (ps_asg (pv 0) (pg_gt (K := K) (n := 3) rfl rfl (pgs_cons (pg_name (i := 2) sc_f_law_holds.nd rfl (by first | exact Or.inl rfl | exact Or.inr rfl)) (pgs_cons (pg_name (i := 3) sc_f_law_holds.nd rfl (by first | exact Or.inl rfl | exact Or.inr rfl)) (pgs_cons (pg_name (i := 4) sc_f_law_holds.nd rfl (by first | exact Or.inl rfl | exact Or.inr rfl)) pgs_nil)))))
    (pss_cons (ps_par (i := 5) (j := 6) rfl sc_f_law_holds.nd rfl rfl (by decide) rfl rfl (pa_cons (pe_f D_f_law_worth (hr.mono (by omega)) (by rfl) pass0 (pa_cons (pv 3) (pa_cons (pv 1) pa_nil))) (pa_cons (pe_f D_f_law_worth (hr.mono (by omega)) (by rfl) pass0 (pa_cons (pv 4) (pa_cons (pv 1) pa_nil))) pa_nil)) (by rfl))
    (pss_cons (ps_if (pt_cmpR (op_gEq (K := K) rfl hr.units) (pv 2) pe_str (nomark _)) (pss_one (ps_ret (pe_cmpR (op_gEq (K := K) rfl hr.units) (pv 5) (pv 6) (nomark _)))) pss_nil)
    (pss_one (ps_ret (pe_cmpR (op_gEq (K := K) rfl hr.units) (pe_op op_gAnd (pv 5) (pv 6)) (pv 5) (nomark _))))))), ?_⟩)
  · obtain ⟨_, _, _, _, _, _, _, _, _, rfl, _⟩ := h
    rfl
  · obtain ⟨s, d, w, l, r, a, b, kvs, g, rfl, hs, hw, ha, hb, hd, oa, ob, da, db, k⟩ := h
    try dsimp only [cxOf, Cx.nox, Cx.wish]
    change (_ : L2.TS) _ [some (.ref s), some (.ref d), none, none, none, none, none] _
    refine w_start ?_
    repeat' (tm_at "rs")
    refine call_lworth (n := 39) ha hd oa da ?_
    repeat' (tm_at "rs")
    refine call_lworth (n := 39) hb hd ob db ?_
    repeat' (tm_at "rs")
    · rename_i h1
      have h2 : ¬ w = Str.ofString "under" := by
        rw [h1]
        decide
      refine cast ?_ (k H (Same.refl _))
      rw [if_neg h2]
      congr 2
      refine decide_eq_decide.mpr ?_
      omega
    · rename_i h1 z z1 z2 z3 z4
      have h2 : w = Str.ofString "under" := by
        rcases hw with e | e
        · exact absurd e h1
        · exact e
      refine cast ?_ (k H (Same.refl _))
      rw [if_pos h2, z1, and_nat]
      congr 2
      refine decide_eq_decide.mpr ?_
      omega
/-! ### _law_first -/
theorem ok_f_law_first {f : Addr} {fd : FuncData} (F : Fun K "_law_first" "_law_first" s_f_law_first f fd)
    (D_f_law_holds : Def P w K mg base CX0 "_law_holds" 42 ["saying", "answer"] (sp_f_law_holds K))
    (m_enumerate : mg "enumerate" = none) :
    FnG P w K mg base CX0 43 f fd ["sayings", "answer"] (sp_f_law_first K) := by
  refine okG F sc_f_law_first (fun vs H Q E h => ?_) (fun cdv A outer s H vs Q E hr h => ⟨_, (pss_cons (ps_for PassesOwn.never rfl (pi_enum (by rfl) m_enumerate (pa_cons (pv 0) pa_nil)) (pg_gt (K := K) (n := 2) rfl rfl (pgs_cons (pg_name (i := 2) sc_f_law_first.nd rfl (by first | exact Or.inl rfl | exact Or.inr rfl)) (pgs_cons (pg_name (i := 3) sc_f_law_first.nd rfl (by first | exact Or.inl rfl | exact Or.inr rfl)) pgs_nil))) (pss_one (ps_if (pt_not (pt_val (pe_f D_f_law_holds (hr.mono (by omega)) (by rfl) pass0 (pa_cons (pv 3) (pa_cons (pv 1) pa_nil))))) (pss_one (ps_ret (pv 2))) pss_nil)))
    (pss_one (ps_ret pe_non))), ?_⟩)
  · obtain ⟨_, _, _, _, _, rfl, _⟩ := h
    rfl
  · obtain ⟨p, d, xs, ss, kvs, rfl, hp, hx, hd, hok, k⟩ := h
    try dsimp only [cxOf, Cx.nox, Cx.wish]
    change (_ : L2.TS) _ [some (.ref p), some (.ref d), none, none] _
    refine w_start ?_
    have hxl : xs.length = ss.length := by have := paired_len hx; rw [List.length_map] at this; exact this
    repeat' (tm_at "rs")
    refine loopEn (xs := xs) (fun i σ' H' => ∃ (x1 x2 : Option V), σ' = [some (.ref p), some (.ref d), x1, x2] ∧ Sm H H' ∧ ∀ c ∈ (ss.map (holdB kvs)).take i, c = true) ⟨_, _, rfl, Same.refl _, fun c h => by cases h⟩ ?_ ?_ ?_
    · rintro i σ' H' hi ⟨x1, x2, rfl, hs, _⟩
      exact sq_of (hs _ _ hp)
    · rintro i x T σ' H1 H2 hi hxi ⟨x1, x2, rfl, hs, hb⟩ nT sT gT
      obtain ⟨t, ht, hta⟩ := paired_get hx hxi
      rw [List.getElem?_map] at ht
      obtain ⟨s, hsi, hst⟩ := Option.map_eq_some_iff.mp ht
      subst hst
      obtain ⟨q, y, z, rfl, gq, ta, tb⟩ := hta.sm (hs.trans sT)
      obtain ⟨hw, oa, ob, da, db, wa, wb⟩ := hok s (List.mem_of_getElem? hsi)
      have ho : (ss.map (holdB kvs))[i]? = some (holdB kvs s) := by rw [List.getElem?_map, hsi]; rfl
      repeat' (tm_at "rs")
      refine call_lholds gq hw ta tb ((hs.trans sT) _ _ hd) oa ob da db (fun H3 s3 => ?_)
      rw [show (if s.1 = "under" then decide (ev (gOf kvs) s.2.1 &&& ev (gOf kvs) s.2.2 = ev (gOf kvs) s.2.1) else decide (ev (gOf kvs) s.2.1 = ev (gOf kvs) s.2.2)) = holdB kvs s from rfl]
      cases ho2 : holdB kvs s with
      | true =>
        repeat' (tm_at "rs")
        refine ⟨_, _, rfl, hs.trans (sT.trans s3), fun c hc => ?_⟩
        rw [List.take_succ, ho, ho2] at hc
        rcases List.mem_append.mp hc with h | h
        · exact hb c h
        · exact List.mem_singleton.mp h
      | false =>
        rw [firstF_take ho hb ho2] at k
        repeat' (tm_at "rs")
        exact k _ (hs.trans (sT.trans s3))
    · rintro σ' H' ⟨x1, x2, rfl, hs, hb⟩
      rw [hxl, ← List.length_map (holdB kvs), List.take_length] at hb
      rw [firstF_none hb] at k
      repeat' (tm_at "rs")
      exact k _ hs
/-! ### _law_right -/
theorem ok_f_law_right {f : Addr} {fd : FuncData} (F : Fun K "_law_right" "_law_right" s_f_law_right f fd) {C_Saying : Addr}
    (G_Saying : DefM P w K mg base CX0 "Saying" 1 ["self", "word", "left", "right"] (sp_f_Saying__init K) C_Saying)
    (SC_Saying : ClsN K "Saying" C_Saying ["word", "left", "right"])
    (D_f_first_wrong : Def P w K mg base CX0 "first_wrong" 6 ["sayings", "answer"] (sp_f_first_wrong K))
    (D_f_law_first : Def P w K mg base CX0 "_law_first" 43 ["sayings", "answer"] (sp_f_law_first K))
    (m_list : mg "list" = none)
    (m_isinstance : mg "isinstance" = none)
    (m_bool : mg "bool" = none)
    (m_tuple : mg "tuple" = none) :
    FnG P w K mg base CX0 44 f fd ["sayings", "answer", "at"] (sp_f_law_right K) := by
  refine okG F sc_f_law_right (fun vs H Q E h => ?_) (fun cdv A outer s H vs Q E hr h => ⟨_, (pss_cons (ps_setLc (i := 3) rfl sc_f_law_right.nd rfl rfl (sw_true rfl rfl rfl (by decide +kernel)) (pi_gl (K := K) rfl (pv 0)) (blkOk_by (own := [("word", 4), ("left", 5), ("right", 6)]) (N := ["sayings", "answer", "at", "some", "word", "left", "right", "numbers", "begun", "handed", "found"]) (sc := defScope s_f_law_right) (by decide +kernel)) (fun _ _ _ _ _ => (pg_gt (K := K) (n := 3) rfl rfl (pgs_cons (pg_name (i := 4) sc_f_law_right.nd rfl (by first | exact Or.inl rfl | exact Or.inr rfl)) (pgs_cons (pg_name (i := 5) sc_f_law_right.nd rfl (by first | exact Or.inl rfl | exact Or.inr rfl)) (pgs_cons (pg_name (i := 6) sc_f_law_right.nd rfl (by first | exact Or.inl rfl | exact Or.inr rfl)) pgs_nil))))) (fun _ _ _ _ _ => pts_nil) (fun _ _ _ _ _ => (pe_mk G_Saying (hr.mono (by omega)) (by rfl) pass0 (pa_cons (pv 4) (pa_cons (pv 5) (pa_cons (pv 6) pa_nil))))))
    (pss_cons (ps_set (i := 7) sc_f_law_right.nd rfl (by first | exact Or.inl rfl | exact Or.inr rfl) (LiI.pe_listItems rfl (pv 1) (by rfl) m_list PyProof.Rows.boot_list))
    (pss_cons (ps_for PassesOwn.never rfl (pi_gt (K := K) rfl (pe_tup (pa_cons pe_int (pa_cons (pv 2) (pa_cons pe_int pa_nil))))) (pg_name (i := 8) sc_f_law_right.nd rfl (by first | exact Or.inl rfl | exact Or.inr rfl)) (pss_cons (ps_set (i := 9) sc_f_law_right.nd rfl (by first | exact Or.inl rfl | exact Or.inr rfl) (pe_slice (sl_gl (K := K) rfl) (pv 3) (po_some (pv 8)) po_none))
    (pss_cons (ps_set (i := 10) sc_f_law_right.nd rfl (by first | exact Or.inl rfl | exact Or.inr rfl) (pe_f D_f_first_wrong (hr.mono (by omega)) (by rfl) pass0 (pa_cons (pv 9) (pa_cons (pv 1) pa_nil))))
    (pss_cons (ps_if (PW.pt (pw_or (pt_cmpR (op_gNe (K := K) rfl hr.units) (pv 10) (pe_f D_f_law_first (hr.mono (by omega)) (by rfl) pass0 (pa_cons (pe_slice (sl_gl (K := K) rfl) (pv 0) (po_some (pv 8)) po_none) (pa_cons (pv 1) pa_nil))) (nomark _)) (pw_or1 (pt_val (pe_callB (call_gIsi (K := K) rfl) (by rfl) m_isinstance PyProof.Rows.boot_isinstance (pa_cons (pv 10) (pa_cons (pe_bltn (v := .ty "bool") (by rfl) m_bool PyProof.Rows.boot_bool rfl) pa_nil))))))) (pss_one (ps_ret pe_bl)) pss_nil)
    (pss_one (ps_if (PW.pt (pw_or (pt_cmpR (op_neSameL hr.units) (pv 9) (pe_slice (sl_gl (K := K) rfl) (pv 3) (po_some (pv 8)) po_none) (nomark _)) (pw_or1 (pt_cmpR (op_gNe (K := K) rfl hr.units) (LiI.pe_listItems rfl (pv 1) (by rfl) m_list PyProof.Rows.boot_list) (pv 7) (nomark _))))) (pss_one (ps_ret pe_bl)) pss_nil))))))
    (pss_one (ps_ret (pe_cmpR (op_gEq (K := K) rfl hr.units) (pe_f D_f_first_wrong (hr.mono (by omega)) (by rfl) pass0 (pa_cons (pe_callTy (call_gTuple (K := K) rfl) (by rfl) m_tuple PyProof.Rows.boot_tuple (pa_cons (pv 3) pa_nil)) (pa_cons (pv 1) pa_nil))) (pe_f D_f_law_first (hr.mono (by omega)) (by rfl) pass0 (pa_cons (pv 0) (pa_cons (pv 1) pa_nil))) (nomark _))))))), ?_⟩)
  · obtain ⟨_, _, _, _, _, _, _, _, rfl, _⟩ := h
    rfl
  · obtain ⟨p, d, a, xs, ss, kvs, ys, M, rfl, hp, hx, hl, hd, hk, hok, k⟩ := h
    try dsimp only [cxOf, Cx.nox, Cx.wish]
    change (_ : L2.TS) _ [some (.ref p), some (.ref d), some (.int (a : Nat)), none, none, none, none, none, none, none, none] _
    refine w_start ?_
    have hxl : xs.length = ss.length := by have := paired_len hx; rw [List.length_map] at this; exact this
    repeat' (tm_at "rs")
    refine lcLs (xs := xs) (fun D i H' => ∃ vs, H' D = some (.lst vs) ∧ SysAt K H' vs (ss.take i) ∧ Sm H H') ?_ ?_ ?_ ?_
    · exact fun D H' nD sm hD => ⟨[], hD, .nil, sm⟩
    · rintro D i H' nD hi ⟨vs, hD, hv, sm⟩
      exact sq_of (sm _ _ hp)
    · rintro D i x H' nD hi ⟨vs, hD, hv, sm⟩
      obtain ⟨t, ht, hta⟩ := paired_get hx hi
      rw [List.getElem?_map] at ht
      obtain ⟨s, hsi, hst⟩ := Option.map_eq_some_iff.mp ht
      subst hst
      obtain ⟨q, y, z, rfl, gq, ta, tb⟩ := hta.sm sm
      obtain ⟨hw, oa, ob, da, db, wa, wb⟩ := hok s (List.mem_of_getElem? hsi)
      have hvl := hv.len
      have hil := (List.getElem?_eq_some_iff.mp hsi).1
      rw [List.length_take] at hvl
      repeat' (tm_at "rs")
      refine mk_say SC_Saying hw (fun P H2 nP sP hP => ?_)
      have hD2 := sP _ _ hD
      repeat' (tm_at "rs")
      rename_i H3 k3 g3
      have hv3 : SysAt K H3 vs (ss.take i) := (hv.sm sP).kpL hD2 k3
      have hP3 : SyAt K H3 (V.ref P) s := (SyAt.sm ⟨y, z, hP, ta.sm sP, tb.sm sP⟩ (Same.refl _)).kpL hD2 k3
      refine ⟨_, g3, ?_, fun c o e => k3 c o (ne_of_none e nD) (sP _ _ (sm _ _ e))⟩
      rw [List.take_succ, hsi]
      exact hv3.one hP3
    · rintro D H1 nD ⟨vs, hD, hv, sm⟩
      rw [hxl, List.take_length] at hv
      have hp1 := sm _ _ hp
      have hd1 := sm _ _ hd
      have hx1 := hx.sm sm
      have hvl := hv.len
      repeat' (tm_at "rs")
      rename_i N0 ts H2 nN0 s2 gN0 hts T H3 nT s3 gT
      have s23 := s2.trans s3
      refine loopT (xs := [.int 0, .int (a : Nat), .int 0]) (fun i σ' H' => ∃ (x8 x9 x10 : Option V), σ' = [some (.ref p), some (.ref d), some (.int (a : Nat)), some (.ref D), none, none, none, some (.ref N0), x8, x9, x10] ∧ Sm H3 H') ⟨_, _, _, rfl, Same.refl _⟩ ?_ ?_ ?_
      · rintro i σ' H' hi ⟨x8, x9, x10, rfl, hs⟩
        exact st_of (hs _ _ gT)
      · rintro i x σ' H4 hxi ⟨x8, x9, x10, rfl, hs⟩
        obtain ⟨u, rfl⟩ : ∃ u : Nat, x = .int (u : Nat) := by
          rcases i with _ | _ | _ | i
          · cases hxi; exact ⟨0, rfl⟩
          · cases hxi; exact ⟨a, rfl⟩
          · cases hxi; exact ⟨0, rfl⟩
          · cases hxi
        have s14 : Sm H1 H4 := s23.trans hs
        have hp4 := s14 _ _ hp1
        have hd4 := s14 _ _ hd1
        have hD4 := s14 _ _ hD
        have gN4 := hs _ _ (s3 _ _ gN0)
        have hts4 : Paired (fun (t : Addr) (q : Key × V) => H4 t = some (.tup [kV q.1, q.2])) ts kvs := paired_mono (fun _ _ e => hs _ _ (s3 _ _ e)) hts
        have hx4 := hx1.sm s14
        have hv4 : SysAt K H4 vs ss := hv.sm s14
        have e1 : cutV vs (some (u : Int)) none = vs.drop u := cut_lo (by omega)
        have e2 : cutV xs (some (u : Int)) none = xs.drop u := cut_lo (by omega)
        repeat' (tm_at "rs")
        rename_i A H5 nA s5 gA
        have hok' : ∀ s ∈ ss.drop u, LookOk kvs s := fun s hs => hok s (List.mem_of_mem_drop hs)
        have gA' : H5 A = some (.lst (vs.drop u)) := by rw [gA, e1]
        have hv5 : SysAt K H5 vs ss := hv4.sm s5
        refine call_firstWrong (.inl gA') (sys_holds (paired_drop u hv5) hok') (s5 _ _ hd4) (fun H6 s6 => ?_)
        have s46 := s5.trans s6
        have hp6 := s46 _ _ hp4
        repeat' (tm_at "rs")
        rename_i B H7 nB s7 gB
        have s47 := s46.trans s7
        rw [e2] at gB
        have hx7 : TmsAt K H7 (xs.drop u) ((ss.drop u).map opS) := by
          rw [List.map_drop]
          exact paired_drop u (hx4.sm s47)
        refine call_lawFirst gB hx7 (s47 _ _ hd4) hok' (fun H8 s8 => ?_)
        refine w_neNat _ ?_
        repeat' (tm_at "rs")
        refine w_isiNat _ ?_
        have s48 := s47.trans s8
        have hD8 := s48 _ _ hD4
        have gA8 := s8 _ _ (s7 _ _ (s6 _ _ gA'))
        repeat' (tm_at "rs")
        rename_i B2 H9 nB2 s9 gB2
        rw [e1] at gB2
        refine w_neSameL (s9 _ _ gA8) gB2 (fun v hv => hv4.refs v (List.mem_of_mem_drop hv)) ?_
        have s49 := s48.trans s9
        have hd9 := s49 _ _ hd4
        repeat' (tm_at "rs")
        rename_i C ts2 H10 nC s10 gC hC
        have s410 := s49.trans s10
        refine w_neSame (.lst (sq_of gC) (itD_dp hk.low hC)) (.lst (sq_of (s410 _ _ gN4)) (itD_dp hk.low (paired_mono (fun _ _ e => s410 _ _ e) hts4))) (itD_shaped hk.low) ?_
        repeat' (tm_at "rs")
        exact ⟨_, _, _, rfl, hs.trans s410⟩
      · rintro σ' H4 ⟨x8, x9, x10, rfl, hs⟩
        have s14 : Sm H1 H4 := s23.trans hs
        have hp4 := s14 _ _ hp1
        have hd4 := s14 _ _ hd1
        have hD4 := s14 _ _ hD
        have hx4 := hx1.sm s14
        have hv4 : SysAt K H4 vs ss := hv.sm s14
        repeat' (tm_at "rs")
        rename_i A H5 nA s5 gA
        refine call_firstWrong (.inr gA) (sys_holds (hv4.sm s5) hok) (s5 _ _ hd4) (fun H6 s6 => ?_)
        have s46 := s5.trans s6
        repeat' (tm_at "rs")
        refine call_lawFirst (s46 _ _ hp4) (hx4.sm s46) (s46 _ _ hd4) hok (fun H8 s8 => ?_)
        refine w_eqNat _ ?_
        repeat' (tm_at "rs")
        exact k _ (sm.trans (s14.trans (s46.trans s8)))
/-! ### _law_least_c -/
theorem ok_f_law_least_c {f : Addr} {fd : FuncData} (F : Fun K "_law_least_c" "_law_least_c" s_f_law_least_c f fd)
    (m_max : mg "max" = none)
    (m_len : mg "len" = none)
    (m_sum : mg "sum" = none) :
    FnG P w K mg base CX0 1 f fd ["rows", "begin", "stands"] (sp_f_law_least_c K) := by
  refine okG F sc_f_law_least_c (fun vs H Q E h => ?_) (fun cdv A outer s H vs Q E hr h => ⟨_, (pss_cons (ps_set (i := 3) sc_f_law_least_c.nd rfl (by first | exact Or.inl rfl | exact Or.inr rfl) (pe_callB (cr_mxN (K := K) rfl rfl hr.units) (by rfl) m_max (by decide +kernel) (pa_cons (pe_op (op_gAdd (K := K) rfl) (pe_lst (pa_cons (pe_callB (cr_smN (K := K) rfl rfl) (by rfl) m_sum (by decide +kernel) (pa_cons (pv 1) pa_nil)) pa_nil)) (pe_lc (own := _) rfl sc_f_law_least_c.nd (pi_gl (K := K) rfl (pv 2)) (blkOk_by (own := [("k", 4), ("contents", 5)]) (N := ["rows", "begin", "stands", "greatest", "k", "contents", "c"]) (sc := defScope s_f_law_least_c) (by decide +kernel)) (fun _ _ _ _ _ => (pg_gt (K := K) (n := 2) rfl rfl (pgs_cons (pg_name (i := 4) sc_f_law_least_c.nd rfl (by first | exact Or.inl rfl | exact Or.inr rfl)) (pgs_cons (pg_name (i := 5) sc_f_law_least_c.nd rfl (by first | exact Or.inl rfl | exact Or.inr rfl)) pgs_nil)))) (fun _ _ _ _ _ => pts_nil) (fun _ _ _ _ _ => (pe_callB (cr_mxN (K := K) rfl rfl hr.units) (by rfl) m_max (by decide +kernel) (pa_cons (pv 5) pa_nil))))) pa_nil)))
    (pss_cons (ps_set (i := 6) sc_f_law_least_c.nd rfl (by first | exact Or.inl rfl | exact Or.inr rfl) pe_int)
    (pss_cons (ps_while PassesOwn.never (PW.pt (pw_or (pt_cmpR op_gLe (pe_op op_gShl pe_int (pe_op op_sub (pv 6) pe_int)) (pv 3) (nomark _)) (pw_or1 (pt_cmpR op_gLe (pe_op op_gShl pe_int (pv 6)) (pe_callB (call_gLen (K := K) rfl) (by rfl) m_len PySem.boot_len (pa_cons (pv 0) pa_nil)) (nomark _))))) (pss_one (ps_set (i := 6) sc_f_law_least_c.nd rfl (by first | exact Or.inl rfl | exact Or.inr rfl) (pe_op (op_gAdd (K := K) rfl) (pv 6) pe_int))))
    (pss_one (ps_ret (pv 6)))))), ?_⟩)
  · obtain ⟨_, _, _, _, _, _, _, _, rfl, _⟩ := h
    rfl
  · obtain ⟨p, b, q, rs, us, xs, bs, ss, rfl, hp, hR, hl, hbb, hq, hx, hne, hsl, hb, k⟩ := h
    try dsimp only [cxOf, Cx.nox, Cx.wish]
    change (_ : L2.TS) _ [some (.ref p), some (.ref b), some (.ref q), none, none, none, none] _
    refine w_start ?_
    have hxl : xs.length = ss.length := paired_len hx
    have hul : us.length = rs.length := paired_len hR
    obtain ⟨k0, l0, rfl⟩ := hne
    repeat' (tm_at "rs")
    refine w_smL (sq_of hbb) ?_
    repeat' (tm_at "rs")
    rename_i S H1 nS s1 gS
    have hp1 := s1 _ _ hp
    have hq1 := s1 _ _ hq
    have hxA := hx.tk (Tk.sm s1)
    refine lcLs (xs := xs) (fun D i H' => H' D = some (.lst (nV ((((k0, bs) :: l0).take i).map fun s => mxN s.2))) ∧ Sm H1 H') ?_ ?_ ?_ ?_
    · exact fun D H' nD sm hD => ⟨hD, sm⟩
    · exact fun D i H' nD hi h => sq_of (h.2 _ _ hq1)
    · rintro D i x H' nD hi ⟨hD, sm⟩
      obtain ⟨s, hs, q, t, rfl, gq, gt⟩ := paired_get hxA hi
      have gq' := sm _ _ gq
      have gt' := sm _ _ gt
      have hsm := List.mem_of_getElem? hs
      have htk : ((k0, bs) :: l0).take (i + 1) = ((k0, bs) :: l0).take i ++ [s] := by rw [List.take_succ, hs]; rfl
      have hil := (List.getElem?_eq_some_iff.mp hs).1
      have hll : (nV ((((k0, bs) :: l0).take i).map fun s => mxN s.2)).length ≤ 1000 := by
        rw [nV_len, List.length_map, List.length_take]
        omega
      repeat' (tm_at "rs")
      refine w_mxT (st_of gt') (hb s hsm).1 ?_
      repeat' (tm_at "rs")
      rename_i H2 k2 g2
      refine ⟨?_, by tm_at "rsm"⟩
      rw [htk, List.map_append, nV_app]
      exact g2
    · rintro D H2 nD ⟨hD, sm⟩
      rw [hxl, List.take_length] at hD
      have gS2 := sm _ _ gS
      have hDl : (nV (((k0, bs) :: l0).map fun s => mxN s.2)).length ≤ 1000 := by
        rw [nV_len, List.length_map]
        omega
      repeat' (tm_at "rs")
      rename_i L H3 nL s3 gL
      have gL' : H3 L = some (.lst (nV (smN bs :: ((k0, bs) :: l0).map fun s => mxN s.2))) := gL
      refine w_mxL (sq_of gL') (by simp) ?_
      have hG : mxN (smN bs :: ((k0, bs) :: l0).map fun s => mxN s.2) = grt ((k0, bs) :: l0) := rfl
      rw [hG]
      have hGb := grt_bd hb (by decide)
      obtain ⟨G, hGe⟩ : ∃ G, G = grt ((k0, bs) :: l0) := ⟨_, rfl⟩
      rw [← hGe] at hGb
      rw [← hGe] at k ⊢
      have hp3 := (sm.trans s3) _ _ hp1
      have s03 : Sm H H3 := s1.trans (sm.trans s3)
      clear gL gL' hD gS2 hDl hG
      have cb : cL G rs.length ≤ 40 := by
        have b1 := btsN_le (x := G) (k := 20) (by omega)
        have b2 := btsN_le (x := rs.length) (k := 20) (by omega)
        unfold cL
        omega
      repeat' (tm_at "rs")
      refine w_while (fun n σ' H' => ∃ (c : Nat) (x4 x5 : Option V), σ' = [some (.ref p), some (.ref b), some (.ref q), some (.int (G : Nat)), x4, x5, some (.int (c : Nat))] ∧ 1 ≤ c ∧ c + n = cL G rs.length ∧ Sm H3 H') (cL G rs.length - 1) ⟨1, _, _, rfl, Nat.le_refl _, by have := cL_pos (G := G) (n := rs.length); omega, Same.refl _⟩ ?_
      rintro n σ' H' ⟨c, x4, x5, rfl, c1, hc, sm2⟩
      have clt := cL_lt (G := G) (n := rs.length) c1
      have hp4 := sm2 _ _ hp3
      have pw : ∀ (z : Int) (j : Nat), z = 2 ^ ((j : Nat) : Int).toNat → z = ((2 ^ j : Nat) : Int) := fun z j e => by rw [e, Int.toNat_natCast, Int.natCast_pow]; rfl
      rw [← hul] at clt
      have ec : ((c : Nat) : Int) - 1 = ((c - 1 : Nat) : Int) := by omega
      repeat' (tm_at "rs")
      · rename_i z z1 z2 z3 z4 z5 e
        have e1 := pw z (c - 1) (by rw [← ec]; exact z1)
        have : c < cL G us.length := clt.mp (.inl (by omega))
        rw [hul] at this
        exact ⟨n - 1, by omega, c + 1, _, _, rfl, by omega, by omega, sm2⟩
      · rename_i z z1 z2 z3 z4 z5 e y y1 y2 y3 y4 y5 e2
        have e1 := pw y c y1
        have : c < cL G us.length := clt.mp (.inr (by omega))
        rw [hul] at this
        exact ⟨n - 1, by omega, c + 1, _, _, rfl, by omega, by omega, sm2⟩
      · rename_i z z1 z2 z3 z4 z5 e y y1 y2 y3 y4 y5 e2
        have e1 := pw z (c - 1) (by rw [← ec]; exact z1)
        have e3 := pw y c y1
        have : ¬ c < cL G us.length := fun h => by
          rcases clt.mpr h with h | h <;> omega
        rw [hul] at this
        have ecc : cL G rs.length = c := by omega
        rw [ecc] at k
        exact k _ ((s1.trans (sm.trans s3)).trans sm2)
/-! ### _law_spoilt -/
theorem ok_f_law_spoilt {f : Addr} {fd : FuncData} (F : Fun K "_law_spoilt" "_law_spoilt" s_f_law_spoilt f fd)
    (D_f_law_take : Def P w K mg base CX0 "_law_take" 1 ["box", "wide"] (sp_f_law_take K))
    (m_list : mg "list" = none)
    (m_dict : mg "dict" = none)
    (m_max : mg "max" = none)
    (m_len : mg "len" = none) :
    FnG P w K mg base CX0 2 f fd ["box", "answer"] (sp_f_law_spoilt K) := by
  refine okG F sc_f_law_spoilt (fun vs H Q E h => ?_) (fun cdv A outer s H vs Q E hr h => ⟨_, (pss_cons (ps_set (i := 2) sc_f_law_spoilt.nd rfl (by first | exact Or.inl rfl | exact Or.inr rfl) (pe_callTy (call_list_dK rfl) (by rfl) m_list PyProof.Rows.boot_list (pa_cons (pv 1) pa_nil)))
    (pss_cons (ps_par (i := 3) (j := 4) rfl sc_f_law_spoilt.nd rfl rfl (by decide) rfl rfl (pa_cons (pe_ix (ix_g (K := K) rfl) (pv 2) (pe_f D_f_law_take (hr.mono (by omega)) (by rfl) pass0 (pa_cons (pv 0) (pa_cons (pe_callB (call_gLen (K := K) rfl) (by rfl) m_len PySem.boot_len (pa_cons (pv 2) pa_nil)) pa_nil))) (fun _ _ => rfl)) (pa_cons (pe_f D_f_law_take (hr.mono (by omega)) (by rfl) pass0 (pa_cons (pv 0) (pa_cons pe_int pa_nil))) pa_nil)) (by rfl))
    (pss_cons (ps_par (i := 5) (j := 6) rfl sc_f_law_spoilt.nd rfl rfl (by decide) rfl rfl (pa_cons (pe_dget (u_one hr.units) (pv 1) (pv 3) (fun _ _ => rfl)) (pa_cons (pe_callTy call_gDictD (by rfl) m_dict PyProof.Rows.boot_dict (pa_cons (pv 1) pa_nil)) pa_nil)) (by rfl))
    (pss_cons (ps_set (i := 7) sc_f_law_spoilt.nd rfl (by first | exact Or.inl rfl | exact Or.inr rfl) (pe_op op_gShl pe_int (pe_f D_f_law_take (hr.mono (by omega)) (by rfl) pass0 (pa_cons (pv 0) (pa_cons (pe_op (op_gAdd (K := K) rfl) pe_int (pe_callB (call_gMax rfl) (by rfl) m_max (by decide +kernel) (pa_cons pe_int (pa_cons (pe_bits (pv 5)) pa_nil)))) pa_nil)))))
    (pss_cons (ps_set (i := 8) sc_f_law_spoilt.nd rfl (by first | exact Or.inl rfl | exact Or.inr rfl) (pe_lst (pa_cons (pe_op (op_gAdd (K := K) rfl) (pv 5) pe_int) (pa_cons (pe_callB (call_gMax rfl) (by rfl) m_max (by decide +kernel) (pa_cons pe_int (pa_cons (pe_op op_sub (pv 5) pe_int) pa_nil))) (pa_cons (pe_op op_gXor (pv 5) (pv 7)) (pa_cons pe_int (pa_cons (pe_dget (u_one hr.units) (pv 1) (pe_ix (ix_g (K := K) rfl) (pv 2) (pe_f D_f_law_take (hr.mono (by omega)) (by rfl) pass0 (pa_cons (pv 0) (pa_cons (pe_callB (call_gLen (K := K) rfl) (by rfl) m_len PySem.boot_len (pa_cons (pv 2) pa_nil)) pa_nil))) (fun _ _ => rfl)) (fun _ _ => rfl)) pa_nil)))))))
    (pss_cons (ps_dput (u_one hr.units) (pv 6) (pv 3) (pe_ix (ix_g (K := K) rfl) (pv 8) (pv 4) (fun _ _ => rfl)) rfl)
    (pss_one (ps_ret (pv 6))))))))), ?_⟩)
  · obtain ⟨_, _, _, _, _, rfl, _⟩ := h
    rfl
  · obtain ⟨b, d, kvs, ys, N, rfl, hB, hd, hdb, hk, hl1, hl2, hN1, hN2, k⟩ := h
    try dsimp only [cxOf, Cx.nox, Cx.wish]
    change (_ : L2.TS) _ [some (.ref b), some (.ref d), none, none, none, none, none, none, none] _
    refine w_start ?_
    repeat' (tm_at "rs")
    refine w_lstD hd (fun L H1 nL s1 gL => ?_)
    have hLb : L ≠ b := ne_newB nL hB
    have hd1 := s1 _ _ hd
    have hLl : (kvs.map fun kv => kV kv.1).length = kvs.length := List.length_map _
    repeat' (tm_at "rs")
    rename_i x H2 x0 x1 k2 b2
    obtain ⟨i, rfl⟩ := Int.eq_ofNat_of_zero_le x0
    obtain ⟨s, n, a1, a2, a3, a4, a5⟩ := hk.key (i := i) (by omega)
    have gL2 := k2 _ _ hLb gL
    have hd2 := k2 _ _ hdb hd1
    have hbN : Builtin.Int.intBits (n : Int) ≤ N := PyProof.Rows.intBits_le (by rw [Int.natAbs_natCast]; exact a3)
    refine w_ixL (sq_of gL2) a1 ?_
    repeat' (tm_at "rs")
    rename_i fm H3 f0 f1 k3 b3 D H4 nD s4 gD mb e1 e2 y H5 y0 y1 k5 b5 B B1 B2 B3 B4 B5 x2 H6 z0 z1 k6 b6
    rw [← e1] at hbN
    have hDb : D ≠ b := ne_newB nD b3
    have hL6 := k6 _ _ hLb (k5 _ _ hLb (s4 _ _ (k3 _ _ hLb gL2)))
    have hd6 := k6 _ _ hdb (k5 _ _ hdb (s4 _ _ (k3 _ _ hdb hd2)))
    have gD6 := k6 _ _ hDb (k5 _ _ hDb gD)
    obtain ⟨i2, rfl⟩ := Int.eq_ofNat_of_zero_le z0
    obtain ⟨s', n', c1, c2, c3, c4, c5⟩ := hk.key (i := i2) (by omega)
    refine w_ixL (sq_of hL6) c1 ?_
    repeat' (tm_at "rs")
    rename_i S H7 nS s7 gS v hv H8 k8 g8
    have yN : y ≤ (N : Int) := by omega
    have hB : B = ((2 ^ y.toNat : Nat) : Int) := by rw [B1, pow2_natP]
    have hyp : 2 ^ y.toNat < 2 ^ (N + 1) := Nat.pow_lt_pow_right (by decide) (by omega)
    have hNN : 2 ^ N * 2 = 2 ^ (N + 1) := (Nat.pow_succ ..).symm
    have hN0 : 0 < 2 ^ N := Nat.pow_pos (by decide)
    obtain ⟨u, hu, hu2⟩ := xor_smallP (k := N + 1) (x := (n : Int)) (y := B) (by omega) (by omega) (by rw [show (2 : Int) ^ (N + 1) = ((2 ^ (N + 1) : Nat) : Int) from pow2_natP _]; omega) (by rw [show (2 : Int) ^ (N + 1) = ((2 ^ (N + 1) : Nat) : Int) from pow2_natP _, hB]; omega)
    rw [hu] at hv
    obtain ⟨w, hw, hwM⟩ : ∃ w : Nat, v = (w : Int) ∧ w < 2 ^ (N + 1) := by
      rcases hv with e | e | e | e | e
      · exact ⟨n + 1, e, by omega⟩
      · exact ⟨n - 1, by omega, by omega⟩
      · exact ⟨u, e, hu2⟩
      · exact ⟨0, e, by omega⟩
      · exact ⟨n', e, by omega⟩
    subst hw
    have hH : ∀ x o, x ≠ b → H x = some o → H3 x = some o := fun x o hx e => k3 _ _ hx (k2 _ _ hx (s1 _ _ e))
    have nDH : H D = none := by
      cases e : H D with
      | none => rfl
      | some o =>
        have := hH D o hDb e
        rw [nD] at this
        cases this
    have k37 : Kp b H3 H7 := fun x o hx e => s7 _ _ (k6 _ _ hx (k5 _ _ hx (s4 _ _ e)))
    refine k D _ H8 nDH g8 (hk.otherwise (by omega) a4 hwM) (putK_hasL a5) (fun x o hx e => k8 _ _ (fun q => by rw [q, nDH] at e; cases e) (k37 _ _ hx (hH x o hx e))) ?_
    exact (b6.sm s7).kp hDb.symm k8
/-! ### _law_tame -/
theorem ok_f_law_tame {f : Addr} {fd : FuncData} (F : Fun K "_law_tame" "_law_tame" s_f_law_tame f fd) :
    FnG P w K mg base CX0 1 f fd ["answer"] (sp_f_law_tame K) := by
  refine okG F sc_f_law_tame (fun vs H Q E h => ?_) (fun cdv A outer s H vs Q E hr h => ⟨_, (pss_one (ps_ret (pe_cmpR op_gLt (pe_op op_gMul (pe_dget (u_one hr.units) (pv 0) pe_str (fun _ _ => rfl)) (pe_op (op_gAdd (K := K) rfl) (pe_dget (u_one hr.units) (pv 0) pe_str (fun _ _ => rfl)) pe_int)) pe_int (nomark _)))), ?_⟩)
  · obtain ⟨_, _, _, _, rfl, _⟩ := h
    rfl
  · obtain ⟨d, kvs, ys, N, rfl, hd, hk, hc, hs, hN, k⟩ := h
    try dsimp only [cxOf, Cx.nox, Cx.wish]
    change (_ : L2.TS) _ [some (.ref d)] _
    refine w_start ?_
    obtain ⟨c1, c2⟩ := hk.at hc
    obtain ⟨s1, s2⟩ := hk.at hs
    have hcm : CM ((gOf kvs (Str.ofString "c") : Nat) : Int) ((gOf kvs (Str.ofString "s") : Nat) + 1) := .inr (mulx_ok (a := N) (b := N + 1) (by rw [Int.natAbs_natCast]; exact c2) (by have := Nat.pow_succ (n := 2) (m := N); have := Nat.pow_pos (n := N) (show 0 < 2 by decide); omega) (by omega))
    repeat' (tm_at "rs")
    refine cast ?_ k
    congr 2
    refine decide_eq_decide.mpr ?_
    rw [show (((gOf kvs (Str.ofString "c") : Nat) : Int) * (((gOf kvs (Str.ofString "s") : Nat) : Int) + 1)) = ((gOf kvs (Str.ofString "c") * (gOf kvs (Str.ofString "s") + 1) : Nat) : Int) by rw [Int.natCast_mul]; rfl]
    omega
/-! ### law -/
theorem ok_f_law {f : Addr} {fd : FuncData} (F : Fun K "law" "law" s_f_law f fd)
    (D_f_law_box : Def P w K mg base CX0 "_law_box" 1 ["script", "k"] (sp_f_law_box K))
    (D_f_law_take : Def P w K mg base CX0 "_law_take" 1 ["box", "wide"] (sp_f_law_take K))
    (D_f_law_stopping : Def P w K mg base CX0 "_law_stopping" 5 ["box", "limit"] (sp_f_law_stopping K))
    (D_f_law_answer : Def P w K mg base CX0 "_law_answer" 2 ["boxes", "rows", "begin", "stands", "c"] (sp_f_law_answer K))
    (D_f_law_sayings : Def P w K mg base CX0 "_law_sayings" 2 ["boxes", "rows"] (sp_f_law_sayings K))
    (D_f_law_right : Def P w K mg base CX0 "_law_right" 44 ["sayings", "answer", "at"] (sp_f_law_right K))
    (D_f_law_least_c : Def P w K mg base CX0 "_law_least_c" 1 ["rows", "begin", "stands"] (sp_f_law_least_c K))
    (D_f_first_wrong : Def P w K mg base CX0 "first_wrong" 6 ["sayings", "answer"] (sp_f_first_wrong K))
    (D_f_law_spoilt : Def P w K mg base CX0 "_law_spoilt" 2 ["box", "answer"] (sp_f_law_spoilt K))
    (D_f_law_tame : Def P w K mg base CX0 "_law_tame" 1 ["answer"] (sp_f_law_tame K))
    (m_range : mg "range" = none)
    (m_max : mg "max" = none)
    (m_min : mg "min" = none)
    (m_len : mg "len" = none)
    (m_int : mg "int" = none) :
    FnG P w K mg base CX0 45 f fd ["script"] (sp_f_law K) := by
  refine okG F sc_f_law (fun vs H Q E h => ?_) (fun cdv A outer s H vs Q E hr h => ⟨_, (pss_cons (ps_set (i := 1) sc_f_law.nd rfl (by first | exact Or.inl rfl | exact Or.inr rfl) (pe_f D_f_law_box (hr.mono (by omega)) (by rfl) pass0 (pa_cons (pv 0) (pa_cons pe_int pa_nil))))
    (pss_cons (ps_set (i := 2) sc_f_law.nd rfl (by first | exact Or.inl rfl | exact Or.inr rfl) (pe_f D_f_law_take (hr.mono (by omega)) (by rfl) pass0 (pa_cons (pv 1) (pa_cons pe_int pa_nil))))
    (pss_cons (ps_asg (pe_f D_f_law_stopping (hr.mono (by omega)) (by rfl) pass0 (pa_cons (pv 1) (pa_cons pe_int pa_nil))) (pg_gt (K := K) (n := 4) rfl rfl (pgs_cons (pg_name (i := 3) sc_f_law.nd rfl (by first | exact Or.inl rfl | exact Or.inr rfl)) (pgs_cons (pg_name (i := 4) sc_f_law.nd rfl (by first | exact Or.inl rfl | exact Or.inr rfl)) (pgs_cons (pg_name (i := 5) sc_f_law.nd rfl (by first | exact Or.inl rfl | exact Or.inr rfl)) (pgs_cons (pg_name (i := 6) sc_f_law.nd rfl (by first | exact Or.inl rfl | exact Or.inr rfl)) pgs_nil))))))
    (pss_cons (ps_set (i := 7) sc_f_law.nd rfl (by first | exact Or.inl rfl | exact Or.inr rfl) (pe_f D_f_law_answer (hr.mono (by omega)) (by rfl) pass0 (pa_cons (pv 3) (pa_cons (pv 4) (pa_cons (pv 5) (pa_cons (pv 6) (pa_cons (pe_op (op_gAdd (K := K) rfl) (pe_f D_f_law_least_c (hr.mono (by omega)) (by rfl) pass0 (pa_cons (pv 4) (pa_cons (pv 5) (pa_cons (pv 6) pa_nil)))) (pv 2)) pa_nil)))))))
    (pss_cons (ps_set (i := 8) sc_f_law.nd rfl (by first | exact Or.inl rfl | exact Or.inr rfl) (pe_f D_f_law_sayings (hr.mono (by omega)) (by rfl) pass0 (pa_cons (pv 3) (pa_cons (pv 4) pa_nil))))
    (pss_cons (ps_if (PW.pt (pw_or (pt_cmpR op_gNot (pe_f D_f_first_wrong (hr.mono (by omega)) (by rfl) pass0 (pa_cons (pe_lst pa_nil) (pa_cons (pv 7) pa_nil))) pe_non (nomark _)) (pw_or1 (pt_not (pt_val (pe_f D_f_law_right (hr.mono (by omega)) (by rfl) pass0 (pa_cons (pv 8) (pa_cons (pv 7) (pa_cons pe_int pa_nil))))))))) (pss_one (ps_ret pe_bl)) pss_nil)
    (pss_cons (ps_for PassesOwn.never rfl (pi_range2 (by rfl) m_range (pa_cons pe_int (pa_cons (pe_callB (call_gMax rfl) (by rfl) m_max (by decide +kernel) (pa_cons pe_int (pa_cons (pe_callB (call_gMin rfl) (by rfl) m_min (by decide +kernel) (pa_cons pe_int (pa_cons (pe_callB (call_gLen (K := K) rfl) (by rfl) m_len PySem.boot_len (pa_cons (pv 0) pa_nil)) pa_nil))) pa_nil))) pa_nil))) (pg_name (i := 9) sc_f_law.nd rfl (by first | exact Or.inl rfl | exact Or.inr rfl)) (pss_cons (ps_set (i := 1) sc_f_law.nd rfl (by first | exact Or.inl rfl | exact Or.inr rfl) (pe_f D_f_law_box (hr.mono (by omega)) (by rfl) pass0 (pa_cons (pv 0) (pa_cons (pv 9) pa_nil))))
    (pss_cons (ps_par (i := 10) (j := 11) rfl sc_f_law.nd rfl rfl (by decide) rfl rfl (pa_cons (pe_f D_f_law_take (hr.mono (by omega)) (by rfl) pass0 (pa_cons (pv 1) (pa_cons (pe_callB (call_gLen (K := K) rfl) (by rfl) m_len PySem.boot_len (pa_cons (pv 8) pa_nil)) pa_nil))) (pa_cons (pe_f D_f_law_spoilt (hr.mono (by omega)) (by rfl) pass0 (pa_cons (pv 1) (pa_cons (pv 7) pa_nil))) pa_nil)) (by rfl))
    (pss_cons (ps_if (pt_cmpR (op_gEq (K := K) rfl hr.units) (pe_f D_f_law_take (hr.mono (by omega)) (by rfl) pass0 (pa_cons (pv 1) (pa_cons pe_int pa_nil))) pe_int (nomark _)) (pss_one (ps_set (i := 11) sc_f_law.nd rfl (by first | exact Or.inl rfl | exact Or.inr rfl) (pe_f D_f_law_spoilt (hr.mono (by omega)) (by rfl) pass0 (pa_cons (pv 1) (pa_cons (pv 11) pa_nil))))) pss_nil)
    (pss_cons (ps_set (i := 2) sc_f_law.nd rfl (by first | exact Or.inl rfl | exact Or.inr rfl) (pe_op op_gMul (pe_slice (sl_gl (K := K) rfl) (pv 8) po_none (po_some pe_int)) (pe_op op_gMul (pe_op op_sub pe_int (pe_callB (call_gLen (K := K) rfl) (by rfl) m_len PySem.boot_len (pa_cons (pv 8) pa_nil))) (pe_callTy call_gInt (by rfl) m_int PyProof.Rows.boot_int (pa_cons (pe_cmpR (op_gEq (K := K) rfl hr.units) (pe_f D_f_law_take (hr.mono (by omega)) (by rfl) pass0 (pa_cons (pv 1) (pa_cons pe_int pa_nil))) pe_int (nomark _)) pa_nil)))))
    (pss_one (ps_if (PW.pt (pw_and (pt_val (pe_f D_f_law_tame (hr.mono (by omega)) (by rfl) pass0 (pa_cons (pv 11) pa_nil))) (pw_and1 (pt_not (pt_val (pe_f D_f_law_right (hr.mono (by omega)) (by rfl) pass0 (pa_cons (pe_op (op_gAdd (K := K) rfl) (pv 2) (pv 8)) (pa_cons (pv 11) (pa_cons (pe_op (op_gAdd (K := K) rfl) (pe_callB (call_gLen (K := K) rfl) (by rfl) m_len PySem.boot_len (pa_cons (pv 2) pa_nil)) (pv 10)) pa_nil))))))))) (pss_one (ps_ret pe_bl)) pss_nil)))))))
    (pss_one (ps_ret (pe_f D_f_law_right (hr.mono (by omega)) (by rfl) pass0 (pa_cons (pv 8) (pa_cons (pv 7) (pa_cons pe_int pa_nil))))))))))))), ?_⟩)
  · obtain ⟨_, _, rfl, _⟩ := h
    rfl
  · obtain ⟨a, ns, rfl, hS, hlen, k⟩ := h
    try dsimp only [cxOf, Cx.nox, Cx.wish]
    change (_ : L2.TS) _ [some (.ref a), none, none, none, none, none, none, none, none, none, none, none] _
    refine w_start ?_
    have hl0 : (ns.map V.int).length ≤ 63 := by rw [List.length_map]; exact hlen
    repeat' (tm_at "rs")
    rename_i b H1 nb sb bb w H2 w0 w1 k2 b2
    have hS2 : SqF K H2 a (ns.map V.int) := (hS.sm sb).kpB bb k2
    refine call_stopping (M := 40) b2 (by decide) (fun t p bp q m rs bs ss H3 np nbp nq _ _ _ gt h4 ho k3 b3 => ?_)
    have hS3 := hS2.kpB b2 k3
    obtain ⟨⟨us, gp, hR⟩, gb, ⟨xs, gq, hx⟩⟩ := id h4
    have R := ho.runB (by decide)
    have hg := ho.pr
    have hsl := ho.sl
    obtain ⟨l0, hl0'⟩ := R.hd
    obtain ⟨w, rfl⟩ := Int.eq_ofNat_of_zero_le w0
    repeat' (tm_at "rs")
    refine call_leastC gp hR hg.len gb gq hx ⟨0, l0, hl0'⟩ (by omega) R.bd (fun H4 s4 => ?_)
    have hne : ss ≠ [] := by rw [hl0']; simp
    obtain ⟨pre, ⟨k0, ys⟩, hss⟩ : ∃ pre last, ss = pre ++ [last] := ⟨ss.dropLast, ss.getLast hne, (List.dropLast_concat_getLast hne).symm⟩
    have h20 := cL_bd R hg.len
    have hA : AnB m rs bs ys ss (cL (grt ss) rs.length + w) := AnB.of ho (by decide) hss (by omega) (by omega)
    repeat' (tm_at "rs")
    refine call_lawAnswer (c := cL (grt ss) rs.length + w) (s4 _ _ gp) (hR.tk (Tk.sm s4)) hg (s4 _ _ gb) ho.ln (s4 _ _ gq) (hx.tk (Tk.sm s4)) hss R.ln (by omega) hA.c1 (by omega) (fun s hs x hx => Nat.le_trans ((R.bd s hs).2.2 x hx) (by decide)) (fun D H5 nD s5 gD => ?_)
    repeat' (tm_at "rs")
    have s35 := s4.trans s5
    refine call_lawSys (s35 _ _ gp) (hR.tk (Tk.sm s35)) hg (fun Y vs H6 nY s6 gY hY => ?_)
    have hk := hA.dic
    have hcs := ans_cs hA
    obtain ⟨kvs, hkv⟩ : ∃ kvs, kvs = mergeK [] (ansD m rs bs ys ss (cL (grt ss) rs.length + w)) := ⟨_, rfl⟩
    rw [← hkv] at gD hk hcs
    have hL6 : L43 K H6 a D Y ns kvs vs (sysOf m rs) := ⟨(hS3.sm s35).sm s6, s6 _ _ gD, gY, hY⟩
    have hlk := ans_look hg hk (by decide) (by
      rw [hcs.1, hcs.2]
      have h1 : (cL (grt ss) rs.length + w) * (ss.length - 1 + 1) ≤ 30 * 41 := Nat.mul_le_mul (by omega) (by omega)
      omega)
    have hsy := sys_len m rs hg
    have gD6 := hL6.dic
    repeat' (tm_at "rs")
    rename_i xL HL nL sL gL
    refine call_firstWrong (g := gOf kvs) (xs := []) (bs := []) (.inl gL) .nil (sL _ _ gD6) (fun H7 s7 => ?_)
    rw [show natV (firstF []) = V.non from rfl]
    have hL7 := hL6.sm (sL.trans s7)
    repeat' (tm_at "rs")
    refine call_right43 (a := 1) hL7.lst hL7.tms (by omega) hL7.dic hk hlk (fun H8 s8 => ?_)
    have hL8 := hL7.sm s8
    have hS8 := hL8.scr
    repeat' (tm_at "rs")
    have hcN : Str.ofString "c" ∈ namesL m rs.length (asked m rs) := mem_namesL.mpr (.inr (.inr (.inl (by unfold nm8; simp))))
    have hsN : Str.ofString "s" ∈ namesL m rs.length (asked m rs) := mem_namesL.mpr (.inr (.inr (.inl (by unfold nm8; simp))))
    have hdl : kvs.length ≤ 100 := by rw [hkv]; exact ans_dlen hg
    have hd1 := pos_has hk hcN
    refine loopR (fun i σ' H' => ∃ (x1 x2 x9 x10 x11 : Option V), σ' = [some (.ref a), x1, x2, some (.int (m : Nat)), some (.ref p), some (.ref bp), some (.ref q), some (.ref D), some (.ref Y), x9, x10, x11] ∧ L43 K H' a D Y ns kvs vs (sysOf m rs)) ?_ ?_ ?_
    · exact ⟨_, _, _, _, _, rfl, hL8⟩
    · rintro i σ' H' hi ⟨x1, x2, x9, x10, x11, rfl, hL⟩
      have hSi := hL.scr
      have hYi := hL.lst
      have hDi := hL.dic
      have hvl : vs.length = (sysOf m rs).length := by have := paired_len hL.tms; rw [List.length_map] at this; exact this
      repeat' (tm_at "rs")
      rename_i b Ha nb sa bb at_ Hb at0 at1 kb bb2
      have Db : D ≠ b := (ne_new nb hDi).symm
      have Yb : Y ≠ b := (ne_new nb hYi).symm
      have hLb := (hL.sm sa).kb bb Db Yb kb
      refine call_spoilt43 (N := 5000) bb2 hLb.dic Db hk hd1 hdl (by decide) (by decide) (fun d2 kv2 Hc nd2 gd2 hk2 hl2 kc bc => ?_)
      have hLc := hLb.kb bb2 Db Yb kc
      have d2b : d2 ≠ b := ne_newB nd2 bb2
      obtain ⟨at_, rfl⟩ := Int.eq_ofNat_of_zero_le at0
      repeat ((fail_if_success (with_reducible refine w_ifJ (fun _ _ => True) ?_ ?_)); tm_at "rs")
      refine w_ifJ (fun σ' H2 => ∃ (d3 : Addr) (kv3 : List (Key × V)), σ' = [some (.ref a), some (.ref b), x2, some (.int (m : Nat)), some (.ref p), some (.ref bp), some (.ref q), some (.ref D), some (.ref Y), some (.int (1 + (i : Int))), some (.int (at_ : Nat)), some (.ref d3)] ∧ H2 d3 = some (.dK kv3) ∧ DicOk kv3 (namesL m rs.length (asked m rs)) (2 ^ 5002) ∧ d3 ≠ b ∧ L43 K H2 a D Y ns kvs vs (sysOf m rs) ∧ BoxAt H2 b) ?_ ?_
      rotate_left
      · intro N kj
        repeat' (tm_at "rs")
        · rename_i w1 Hd w10 w11 kd bd w1e
          refine call_spoilt43 (N := 5001) bd (kd _ _ d2b gd2) d2b hk2 (by omega) (by omega) (by decide) (by decide) (fun d3 kv3 He nd3 gd3 hk3 hl3 ke be => ?_)
          repeat' (tm_at "rs")
          exact kj _ _ ⟨d3, kv3, rfl, gd3, hk3, ne_newB nd3 bd, (hLc.kb bc Db Yb kd).kb bd Db Yb ke, be⟩
        · rename_i w1 Hd w10 w11 kd bd w1e
          exact kj _ _ ⟨d2, kv2, rfl, kd _ _ d2b gd2, hk2.up (Nat.pow_le_pow_right (by decide) (by decide)), d2b, hLc.kb bc Db Yb kd, bd⟩
      · rintro σ2 H2 ⟨d3, kv3, rfl, gd3, hk3, d3b, hL2, bb3⟩
        have hY2 := hL2.lst
        have hD2 := hL2.dic
        repeat' (tm_at "rs")
        all_goals
          rename_i A HA nA sA gA w3 HB w30 w31 kB bB w3e
          have eA : cutV vs none (some 1) = vs.take 1 := cut_hi (by decide)
          rw [eA] at gA
          have Ab : A ≠ b := ne_newB nA bb3
          have gAB := kB _ _ Ab gA
          have hLB := (hL2.sm sA).kb (bb3.sm sA) Db Yb kB
          have gdB := kB _ _ d3b (sA _ _ gd3)
          have tl1 : (vs.take 1).length ≤ 1 := by rw [List.length_take]; omega
          refine w_repL gAB (by omega) (by omega) (by omega) (fun B HC nB sC gB => ?_)
          obtain ⟨n, hn, gB⟩ : ∃ n : Nat, n ≤ 100 ∧ HC B = some (.lst (List.replicate n (vs.take 1)).flatten) := ⟨_, by omega, gB⟩
          have hLC := hLB.sm sC
          have hYC := hLC.lst
          have gdC := sC _ _ gdB
          have hfl := flat_len tl1 n
          repeat' (tm_at "rs")
          refine call_tame gdC hk3 hcN hsN (by decide) ?_
          repeat' (tm_at "rs")
          · rename_i ht F HD nF sD gF
            have hLD := hLC.sm sD
            have hpt : TmsAt K HD ((List.replicate n (vs.take 1)).flatten ++ vs) (((List.replicate n ((sysOf m rs).take 1)).flatten ++ sysOf m rs).map opS) := by
              rw [List.map_append, List.map_flatten, List.map_replicate, List.map_take]
              exact paired_app (paired_flat (paired_take 1 hLD.tms) n) hLD.tms
            have tl2 : ((sysOf m rs).take 1).length ≤ 1 := by rw [List.length_take]; omega
            have hl2 := flat_len tl2 n
            refine call_right43 (a := (List.replicate n (vs.take 1)).flatten.length + at_) gF hpt (by rw [List.length_append]; omega) (sD _ _ gdC) hk3 (fun s hs => ans_look hg hk3 (by decide) (of_decide_eq_true (decide_eq_true ht)) s ?_) (fun HE sE => ?_)
            · rcases List.mem_append.mp hs with h | h
              · exact List.mem_of_mem_take (flat_mem h)
              · exact h
            · repeat' (tm_at "rs")
              exact ⟨_, _, _, _, _, rfl, hLD.sm sE⟩
          · exact ⟨_, _, _, _, _, rfl, hLC⟩
    · rintro σ' H' ⟨x1, x2, x9, x10, x11, rfl, hL⟩
      repeat' (tm_at "rs")
      refine call_right43 (a := 0) hL.lst hL.tms (by omega) hL.dic hk hlk (fun H9 s9 => ?_)
      repeat' (tm_at "rs")
      exact k _
end
theorem all_mk {l : PySem.W.OpenLaw} {w : World} {K : PySem.W.Frag} {h : Heap} {mg : Str → Option Value} {fa : Addr} (X : K.In h) (G : h.Ns mainGlobals mg) (hfa : mg "law" = some (.ref fa))
    {f0 : Addr} {od0 an0 : Option Addr} {sl0 : Array (Option Value)} {oc0 kV0 dc0 pm0 cd0 ct0 : Value}
    {f1 : Addr} {od1 an1 : Option Addr} {sl1 : Array (Option Value)} {oc1 kV1 dc1 pm1 cd1 ct1 : Value}
    {f2 : Addr} {od2 an2 : Option Addr} {sl2 : Array (Option Value)} {oc2 kV2 dc2 pm2 cd2 ct2 : Value}
    {f3 : Addr} {od3 an3 : Option Addr} {sl3 : Array (Option Value)} {oc3 kV3 dc3 pm3 cd3 ct3 : Value}
    {f4 : Addr} {od4 an4 : Option Addr} {sl4 : Array (Option Value)} {oc4 kV4 dc4 pm4 cd4 ct4 : Value}
    {f5 : Addr} {od5 an5 : Option Addr} {sl5 : Array (Option Value)} {oc5 kV5 dc5 pm5 cd5 ct5 : Value}
    {f6 : Addr} {od6 an6 : Option Addr} {sl6 : Array (Option Value)} {oc6 kV6 dc6 pm6 cd6 ct6 : Value}
    {f7 : Addr} {od7 an7 : Option Addr} {sl7 : Array (Option Value)} {oc7 kV7 dc7 pm7 cd7 ct7 : Value}
    {f8 : Addr} {od8 an8 : Option Addr} {sl8 : Array (Option Value)} {oc8 kV8 dc8 pm8 cd8 ct8 : Value}
    {f9 : Addr} {od9 an9 : Option Addr} {sl9 : Array (Option Value)} {oc9 kV9 dc9 pm9 cd9 ct9 : Value}
    {f10 : Addr} {od10 an10 : Option Addr} {sl10 : Array (Option Value)} {oc10 kV10 dc10 pm10 cd10 ct10 : Value}
    {f11 : Addr} {od11 an11 : Option Addr} {sl11 : Array (Option Value)} {oc11 kV11 dc11 pm11 cd11 ct11 : Value}
    {f12 : Addr} {od12 an12 : Option Addr} {sl12 : Array (Option Value)} {oc12 kV12 dc12 pm12 cd12 ct12 : Value}
    {f13 : Addr} {od13 an13 : Option Addr} {sl13 : Array (Option Value)} {oc13 kV13 dc13 pm13 cd13 ct13 : Value}
    {f14 : Addr} {od14 an14 : Option Addr} {sl14 : Array (Option Value)} {oc14 kV14 dc14 pm14 cd14 ct14 : Value}
    {f15 : Addr} {od15 an15 : Option Addr} {sl15 : Array (Option Value)} {oc15 kV15 dc15 pm15 cd15 ct15 : Value}
    {f16 : Addr} {od16 an16 : Option Addr} {sl16 : Array (Option Value)} {oc16 kV16 dc16 pm16 cd16 ct16 : Value}
    {f17 : Addr} {od17 an17 : Option Addr} {sl17 : Array (Option Value)} {oc17 kV17 dc17 pm17 cd17 ct17 : Value}
    {f18 : Addr} {od18 an18 : Option Addr} {sl18 : Array (Option Value)} {oc18 kV18 dc18 pm18 cd18 ct18 : Value}
    {f19 : Addr} {od19 an19 : Option Addr} {sl19 : Array (Option Value)} {oc19 kV19 dc19 pm19 cd19 ct19 : Value}
    {f20 : Addr} {od20 an20 : Option Addr} {sl20 : Array (Option Value)} {oc20 kV20 dc20 pm20 cd20 ct20 : Value}
    {f21 : Addr} {od21 an21 : Option Addr} {sl21 : Array (Option Value)} {oc21 kV21 dc21 pm21 cd21 ct21 : Value}
    {f22 : Addr} {od22 an22 : Option Addr} {sl22 : Array (Option Value)} {oc22 kV22 dc22 pm22 cd22 ct22 : Value}
    {f23 : Addr} {od23 an23 : Option Addr} {sl23 : Array (Option Value)} {oc23 kV23 dc23 pm23 cd23 ct23 : Value}
    {f24 : Addr} {od24 an24 : Option Addr} {sl24 : Array (Option Value)} {oc24 kV24 dc24 pm24 cd24 ct24 : Value}
    {f25 : Addr} {od25 an25 : Option Addr} {sl25 : Array (Option Value)} {oc25 kV25 dc25 pm25 cd25 ct25 : Value}
    {f26 : Addr} {od26 an26 : Option Addr} {sl26 : Array (Option Value)} {oc26 kV26 dc26 pm26 cd26 ct26 : Value}
    {f27 : Addr} {od27 an27 : Option Addr} {sl27 : Array (Option Value)} {oc27 kV27 dc27 pm27 cd27 ct27 : Value}
    {f28 : Addr} {od28 an28 : Option Addr} {sl28 : Array (Option Value)} {oc28 kV28 dc28 pm28 cd28 ct28 : Value}
    {f29 : Addr} {od29 an29 : Option Addr} {sl29 : Array (Option Value)} {oc29 kV29 dc29 pm29 cd29 ct29 : Value}
    {f30 : Addr} {od30 an30 : Option Addr} {sl30 : Array (Option Value)} {oc30 kV30 dc30 pm30 cd30 ct30 : Value}
    {f31 : Addr} {od31 an31 : Option Addr} {sl31 : Array (Option Value)} {oc31 kV31 dc31 pm31 cd31 ct31 : Value}
    {f32 : Addr} {od32 an32 : Option Addr} {sl32 : Array (Option Value)} {oc32 kV32 dc32 pm32 cd32 ct32 : Value}
    {f33 : Addr} {od33 an33 : Option Addr} {sl33 : Array (Option Value)} {oc33 kV33 dc33 pm33 cd33 ct33 : Value}
    {f34 : Addr} {od34 an34 : Option Addr} {sl34 : Array (Option Value)} {oc34 kV34 dc34 pm34 cd34 ct34 : Value}
    {C_Saying : Addr}
    {a_WORDS : Addr} {es_WORDS : Array DictEntry} {n_WORDS : Nat} {tv_WORDS_0 : Tok} {tv_WORDS_1 : Tok}
    {t_MOST_BITS : Tok}
    (g_Saying : PySem.W.nsIn K mainGlobals "Saying" = some (some (.ref C_Saying)))
    (mk_Saying : PySem.W.makesIn K C_Saying = true)
    (kc_Saying : PySem.W.keepIn K (.ref C_Saying) = true)
    (pg_Saying : PySem.W.plainGet K C_Saying Str.empty = true)
    (hd_Saying : PySem.W.hasDictIn K C_Saying = true)
    (po_Saying : PySem.W.plainOver K C_Saying = true)
    (sa_Saying : PySem.W.findIn K (.ref C_Saying) "__setattr__" = some (some (.builtin "object.__setattr__")))
    (o1_Saying : PySem.W.findIn K (.ref C_Saying) "__ne__" = some (some (.builtin "object.__ne__")))
    (o2_Saying : PySem.W.mroIn K C_Saying (.type "object") = some true)
    (o3_Saying : PySem.W.findIn K (.ref C_Saying) "__class__" = some (some (.builtin "object.__class__")))
    (o6_Saying : PySem.W.kitOne K (.ref C_Saying) (.ref C_Saying) = some true)
    (na_Saying_word : PySem.W.findIn K (.ref C_Saying) "word" = some none)
    (na_Saying_left : PySem.W.findIn K (.ref C_Saying) "left" = some none)
    (na_Saying_right : PySem.W.findIn K (.ref C_Saying) "right" = some none)
    (o4 : PySem.W.specialIn K (.builtin "object.__class__") "__get__" = some (some (.builtin "getset_descriptor.__get__")))
    (o5 : PySem.W.takesIn K (.builtin "object.__class__") = some true)
    (a0 : PySem.W.nsIn K mainGlobals "_law_box" = some (some (.ref f0)))
    (l0 : K.lookup f0 = some ⟨oc0, od0, .func (PySem.W.fnOf "_law_box" "_law_box" (defArgs s_f_law_box) (defBody s_f_law_box) (defScope s_f_law_box) .none kV0 dc0 pm0 an0 cd0 ct0), sl0⟩)
    (c0 : PySem.W.codeIn K cd0 "_law_box" = true)
    (k0 : PySem.W.keepIn K (.ref f0) = true)
    (a1 : PySem.W.nsIn K mainGlobals "_law_take" = some (some (.ref f1)))
    (l1 : K.lookup f1 = some ⟨oc1, od1, .func (PySem.W.fnOf "_law_take" "_law_take" (defArgs s_f_law_take) (defBody s_f_law_take) (defScope s_f_law_take) .none kV1 dc1 pm1 an1 cd1 ct1), sl1⟩)
    (c1 : PySem.W.codeIn K cd1 "_law_take" = true)
    (k1 : PySem.W.keepIn K (.ref f1) = true)
    (a2 : PySem.W.nsIn K mainGlobals "_law_piece" = some (some (.ref f2)))
    (l2 : K.lookup f2 = some ⟨oc2, od2, .func (PySem.W.fnOf "_law_piece" "_law_piece" (defArgs s_f_law_piece) (defBody s_f_law_piece) (defScope s_f_law_piece) .none kV2 dc2 pm2 an2 cd2 ct2), sl2⟩)
    (c2 : PySem.W.codeIn K cd2 "_law_piece" = true)
    (k2 : PySem.W.keepIn K (.ref f2) = true)
    (a3 : PySem.W.nsIn K mainGlobals "_law_ending_rows" = some (some (.ref f3)))
    (l3 : K.lookup f3 = some ⟨oc3, od3, .func (PySem.W.fnOf "_law_ending_rows" "_law_ending_rows" (defArgs s_f_law_ending_rows) (defBody s_f_law_ending_rows) (defScope s_f_law_ending_rows) .none kV3 dc3 pm3 an3 cd3 ct3), sl3⟩)
    (c3 : PySem.W.codeIn K cd3 "_law_ending_rows" = true)
    (k3 : PySem.W.keepIn K (.ref f3) = true)
    (a4 : PySem.W.nsIn K mainGlobals "_law_row" = some (some (.ref f4)))
    (l4 : K.lookup f4 = some ⟨oc4, od4, .func (PySem.W.fnOf "_law_row" "_law_row" (defArgs s_f_law_row) (defBody s_f_law_row) (defScope s_f_law_row) .none kV4 dc4 pm4 an4 cd4 ct4), sl4⟩)
    (c4 : PySem.W.codeIn K cd4 "_law_row" = true)
    (k4 : PySem.W.keepIn K (.ref f4) = true)
    (a5 : PySem.W.nsIn K mainGlobals "_law_any_rows" = some (some (.ref f5)))
    (l5 : K.lookup f5 = some ⟨oc5, od5, .func (PySem.W.fnOf "_law_any_rows" "_law_any_rows" (defArgs s_f_law_any_rows) (defBody s_f_law_any_rows) (defScope s_f_law_any_rows) .none kV5 dc5 pm5 an5 cd5 ct5), sl5⟩)
    (c5 : PySem.W.codeIn K cd5 "_law_any_rows" = true)
    (k5 : PySem.W.keepIn K (.ref f5) = true)
    (a6 : PySem.W.nsIn K mainGlobals "_law_some_program" = some (some (.ref f6)))
    (l6 : K.lookup f6 = some ⟨oc6, od6, .func (PySem.W.fnOf "_law_some_program" "_law_some_program" (defArgs s_f_law_some_program) (defBody s_f_law_some_program) (defScope s_f_law_some_program) .none kV6 dc6 pm6 an6 cd6 ct6), sl6⟩)
    (c6 : PySem.W.codeIn K cd6 "_law_some_program" = true)
    (k6 : PySem.W.keepIn K (.ref f6) = true)
    (a7 : PySem.W.nsIn K mainGlobals "_law_begin" = some (some (.ref f7)))
    (l7 : K.lookup f7 = some ⟨oc7, od7, .func (PySem.W.fnOf "_law_begin" "_law_begin" (defArgs s_f_law_begin) (defBody s_f_law_begin) (defScope s_f_law_begin) .none kV7 dc7 pm7 an7 cd7 ct7), sl7⟩)
    (c7 : PySem.W.codeIn K cd7 "_law_begin" = true)
    (k7 : PySem.W.keepIn K (.ref f7) = true)
    (a8 : PySem.W.nsIn K mainGlobals "_law_after" = some (some (.ref f8)))
    (l8 : K.lookup f8 = some ⟨oc8, od8, .func (PySem.W.fnOf "_law_after" "_law_after" (defArgs s_f_law_after) (defBody s_f_law_after) (defScope s_f_law_after) .none kV8 dc8 pm8 an8 cd8 ct8), sl8⟩)
    (c8 : PySem.W.codeIn K cd8 "_law_after" = true)
    (k8 : PySem.W.keepIn K (.ref f8) = true)
    (a9 : PySem.W.nsIn K mainGlobals "_law_run" = some (some (.ref f9)))
    (l9 : K.lookup f9 = some ⟨oc9, od9, .func (PySem.W.fnOf "_law_run" "_law_run" (defArgs s_f_law_run) (defBody s_f_law_run) (defScope s_f_law_run) .none kV9 dc9 pm9 an9 cd9 ct9), sl9⟩)
    (c9 : PySem.W.codeIn K cd9 "_law_run" = true)
    (k9 : PySem.W.keepIn K (.ref f9) = true)
    (a10 : PySem.W.nsIn K mainGlobals "_law_stopping" = some (some (.ref f10)))
    (l10 : K.lookup f10 = some ⟨oc10, od10, .func (PySem.W.fnOf "_law_stopping" "_law_stopping" (defArgs s_f_law_stopping) (defBody s_f_law_stopping) (defScope s_f_law_stopping) .none kV10 dc10 pm10 an10 cd10 ct10), sl10⟩)
    (c10 : PySem.W.codeIn K cd10 "_law_stopping" = true)
    (k10 : PySem.W.keepIn K (.ref f10) = true)
    (a11 : PySem.W.nsIn K mainGlobals "_law_asked" = some (some (.ref f11)))
    (l11 : K.lookup f11 = some ⟨oc11, od11, .func (PySem.W.fnOf "_law_asked" "_law_asked" (defArgs s_f_law_asked) (defBody s_f_law_asked) (defScope s_f_law_asked) .none kV11 dc11 pm11 an11 cd11 ct11), sl11⟩)
    (c11 : PySem.W.codeIn K cd11 "_law_asked" = true)
    (k11 : PySem.W.keepIn K (.ref f11) = true)
    (a12 : PySem.W.nsIn K mainGlobals "_law_answer" = some (some (.ref f12)))
    (l12 : K.lookup f12 = some ⟨oc12, od12, .func (PySem.W.fnOf "_law_answer" "_law_answer" (defArgs s_f_law_answer) (defBody s_f_law_answer) (defScope s_f_law_answer) .none kV12 dc12 pm12 an12 cd12 ct12), sl12⟩)
    (c12 : PySem.W.codeIn K cd12 "_law_answer" = true)
    (k12 : PySem.W.keepIn K (.ref f12) = true)
    (a13 : PySem.W.nsIn K mainGlobals "_law_named" = some (some (.ref f13)))
    (l13 : K.lookup f13 = some ⟨oc13, od13, .func (PySem.W.fnOf "_law_named" "_law_named" (defArgs s_f_law_named) (defBody s_f_law_named) (defScope s_f_law_named) .none kV13 dc13 pm13 an13 cd13 ct13), sl13⟩)
    (c13 : PySem.W.codeIn K cd13 "_law_named" = true)
    (k13 : PySem.W.keepIn K (.ref f13) = true)
    (a14 : PySem.W.nsIn K mainGlobals "_law_row_sayings" = some (some (.ref f14)))
    (l14 : K.lookup f14 = some ⟨oc14, od14, .func (PySem.W.fnOf "_law_row_sayings" "_law_row_sayings" (defArgs s_f_law_row_sayings) (defBody s_f_law_row_sayings) (defScope s_f_law_row_sayings) .none kV14 dc14 pm14 an14 cd14 ct14), sl14⟩)
    (c14 : PySem.W.codeIn K cd14 "_law_row_sayings" = true)
    (k14 : PySem.W.keepIn K (.ref f14) = true)
    (a15 : PySem.W.nsIn K mainGlobals "_law_sum" = some (some (.ref f15)))
    (l15 : K.lookup f15 = some ⟨oc15, od15, .func (PySem.W.fnOf "_law_sum" "_law_sum" (defArgs s_f_law_sum) (defBody s_f_law_sum) (defScope s_f_law_sum) .none kV15 dc15 pm15 an15 cd15 ct15), sl15⟩)
    (c15 : PySem.W.codeIn K cd15 "_law_sum" = true)
    (k15 : PySem.W.keepIn K (.ref f15) = true)
    (a16 : PySem.W.nsIn K mainGlobals "_law_sayings" = some (some (.ref f16)))
    (l16 : K.lookup f16 = some ⟨oc16, od16, .func (PySem.W.fnOf "_law_sayings" "_law_sayings" (defArgs s_f_law_sayings) (defBody s_f_law_sayings) (defScope s_f_law_sayings) .none kV16 dc16 pm16 an16 cd16 ct16), sl16⟩)
    (c16 : PySem.W.codeIn K cd16 "_law_sayings" = true)
    (k16 : PySem.W.keepIn K (.ref f16) = true)
    (a17 : PySem.W.findIn K (.ref C_Saying) "__init__" = some (some (.ref f17)))
    (i17 : PySem.W.isFn K (.ref f17) = true)
    (l17 : K.lookup f17 = some ⟨oc17, od17, .func (PySem.W.fnOf "__init__" "Saying.__init__" (defArgs s_f_Saying__init) (defBody s_f_Saying__init) (defScope s_f_Saying__init) .none kV17 dc17 pm17 an17 cd17 ct17), sl17⟩)
    (c17 : PySem.W.codeIn K cd17 "Saying.__init__" = true)
    (k17 : PySem.W.keepIn K (.ref f17) = true)
    (a18 : PySem.W.nsIn K mainGlobals "let_by" = some (some (.ref f18)))
    (l18 : K.lookup f18 = some ⟨oc18, od18, .func (PySem.W.fnOf "let_by" "let_by" (defArgs s_f_let_by) (defBody s_f_let_by) (defScope s_f_let_by) .none kV18 dc18 pm18 an18 cd18 ct18), sl18⟩)
    (c18 : PySem.W.codeIn K cd18 "let_by" = true)
    (k18 : PySem.W.keepIn K (.ref f18) = true)
    (a19 : PySem.W.nsIn K mainGlobals "power_of" = some (some (.ref f19)))
    (l19 : K.lookup f19 = some ⟨oc19, od19, .func (PySem.W.fnOf "power_of" "power_of" (defArgs s_f_power_of) (defBody s_f_power_of) (defScope s_f_power_of) .none kV19 dc19 pm19 an19 cd19 ct19), sl19⟩)
    (c19 : PySem.W.codeIn K cd19 "power_of" = true)
    (k19 : PySem.W.keepIn K (.ref f19) = true)
    (a20 : PySem.W.nsIn K mainGlobals "product" = some (some (.ref f20)))
    (l20 : K.lookup f20 = some ⟨oc20, od20, .func (PySem.W.fnOf "product" "product" (defArgs s_f_product) (defBody s_f_product) (defScope s_f_product) .none kV20 dc20 pm20 an20 cd20 ct20), sl20⟩)
    (c20 : PySem.W.codeIn K cd20 "product" = true)
    (k20 : PySem.W.keepIn K (.ref f20) = true)
    (a21 : PySem.W.nsIn K mainGlobals "come_to" = some (some (.ref f21)))
    (l21 : K.lookup f21 = some ⟨oc21, od21, .func (PySem.W.fnOf "come_to" "come_to" (defArgs s_f_come_to) (defBody s_f_come_to) (defScope s_f_come_to) .none kV21 dc21 pm21 an21 cd21 ct21), sl21⟩)
    (c21 : PySem.W.codeIn K cd21 "come_to" = true)
    (k21 : PySem.W.keepIn K (.ref f21) = true)
    (a22 : PySem.W.nsIn K mainGlobals "number_of" = some (some (.ref f22)))
    (l22 : K.lookup f22 = some ⟨oc22, od22, .func (PySem.W.fnOf "number_of" "number_of" (defArgs s_f_number_of) (defBody s_f_number_of) (defScope s_f_number_of) .none kV22 dc22 pm22 an22 cd22 ct22), sl22⟩)
    (c22 : PySem.W.codeIn K cd22 "number_of" = true)
    (k22 : PySem.W.keepIn K (.ref f22) = true)
    (a23 : PySem.W.nsIn K mainGlobals "worth" = some (some (.ref f23)))
    (l23 : K.lookup f23 = some ⟨oc23, od23, .func (PySem.W.fnOf "worth" "worth" (defArgs s_f_worth) (defBody s_f_worth) (defScope s_f_worth) .none kV23 dc23 pm23 an23 cd23 ct23), sl23⟩)
    (c23 : PySem.W.codeIn K cd23 "worth" = true)
    (k23 : PySem.W.keepIn K (.ref f23) = true)
    (a24 : PySem.W.nsIn K mainGlobals "fits" = some (some (.ref f24)))
    (l24 : K.lookup f24 = some ⟨oc24, od24, .func (PySem.W.fnOf "fits" "fits" (defArgs s_f_fits) (defBody s_f_fits) (defScope s_f_fits) .none kV24 dc24 pm24 an24 cd24 ct24), sl24⟩)
    (c24 : PySem.W.codeIn K cd24 "fits" = true)
    (k24 : PySem.W.keepIn K (.ref f24) = true)
    (a25 : PySem.W.nsIn K mainGlobals "holds" = some (some (.ref f25)))
    (l25 : K.lookup f25 = some ⟨oc25, od25, .func (PySem.W.fnOf "holds" "holds" (defArgs s_f_holds) (defBody s_f_holds) (defScope s_f_holds) .none kV25 dc25 pm25 an25 cd25 ct25), sl25⟩)
    (c25 : PySem.W.codeIn K cd25 "holds" = true)
    (k25 : PySem.W.keepIn K (.ref f25) = true)
    (a26 : PySem.W.nsIn K mainGlobals "first_wrong" = some (some (.ref f26)))
    (l26 : K.lookup f26 = some ⟨oc26, od26, .func (PySem.W.fnOf "first_wrong" "first_wrong" (defArgs s_f_first_wrong) (defBody s_f_first_wrong) (defScope s_f_first_wrong) .none kV26 dc26 pm26 an26 cd26 ct26), sl26⟩)
    (c26 : PySem.W.codeIn K cd26 "first_wrong" = true)
    (k26 : PySem.W.keepIn K (.ref f26) = true)
    (a27 : PySem.W.nsIn K mainGlobals "_law_worth" = some (some (.ref f27)))
    (l27 : K.lookup f27 = some ⟨oc27, od27, .func (PySem.W.fnOf "_law_worth" "_law_worth" (defArgs s_f_law_worth) (defBody s_f_law_worth) (defScope s_f_law_worth) .none kV27 dc27 pm27 an27 cd27 ct27), sl27⟩)
    (c27 : PySem.W.codeIn K cd27 "_law_worth" = true)
    (k27 : PySem.W.keepIn K (.ref f27) = true)
    (a28 : PySem.W.nsIn K mainGlobals "_law_holds" = some (some (.ref f28)))
    (l28 : K.lookup f28 = some ⟨oc28, od28, .func (PySem.W.fnOf "_law_holds" "_law_holds" (defArgs s_f_law_holds) (defBody s_f_law_holds) (defScope s_f_law_holds) .none kV28 dc28 pm28 an28 cd28 ct28), sl28⟩)
    (c28 : PySem.W.codeIn K cd28 "_law_holds" = true)
    (k28 : PySem.W.keepIn K (.ref f28) = true)
    (a29 : PySem.W.nsIn K mainGlobals "_law_first" = some (some (.ref f29)))
    (l29 : K.lookup f29 = some ⟨oc29, od29, .func (PySem.W.fnOf "_law_first" "_law_first" (defArgs s_f_law_first) (defBody s_f_law_first) (defScope s_f_law_first) .none kV29 dc29 pm29 an29 cd29 ct29), sl29⟩)
    (c29 : PySem.W.codeIn K cd29 "_law_first" = true)
    (k29 : PySem.W.keepIn K (.ref f29) = true)
    (a30 : PySem.W.nsIn K mainGlobals "_law_right" = some (some (.ref f30)))
    (l30 : K.lookup f30 = some ⟨oc30, od30, .func (PySem.W.fnOf "_law_right" "_law_right" (defArgs s_f_law_right) (defBody s_f_law_right) (defScope s_f_law_right) .none kV30 dc30 pm30 an30 cd30 ct30), sl30⟩)
    (c30 : PySem.W.codeIn K cd30 "_law_right" = true)
    (k30 : PySem.W.keepIn K (.ref f30) = true)
    (a31 : PySem.W.nsIn K mainGlobals "_law_least_c" = some (some (.ref f31)))
    (l31 : K.lookup f31 = some ⟨oc31, od31, .func (PySem.W.fnOf "_law_least_c" "_law_least_c" (defArgs s_f_law_least_c) (defBody s_f_law_least_c) (defScope s_f_law_least_c) .none kV31 dc31 pm31 an31 cd31 ct31), sl31⟩)
    (c31 : PySem.W.codeIn K cd31 "_law_least_c" = true)
    (k31 : PySem.W.keepIn K (.ref f31) = true)
    (a32 : PySem.W.nsIn K mainGlobals "_law_spoilt" = some (some (.ref f32)))
    (l32 : K.lookup f32 = some ⟨oc32, od32, .func (PySem.W.fnOf "_law_spoilt" "_law_spoilt" (defArgs s_f_law_spoilt) (defBody s_f_law_spoilt) (defScope s_f_law_spoilt) .none kV32 dc32 pm32 an32 cd32 ct32), sl32⟩)
    (c32 : PySem.W.codeIn K cd32 "_law_spoilt" = true)
    (k32 : PySem.W.keepIn K (.ref f32) = true)
    (a33 : PySem.W.nsIn K mainGlobals "_law_tame" = some (some (.ref f33)))
    (l33 : K.lookup f33 = some ⟨oc33, od33, .func (PySem.W.fnOf "_law_tame" "_law_tame" (defArgs s_f_law_tame) (defBody s_f_law_tame) (defScope s_f_law_tame) .none kV33 dc33 pm33 an33 cd33 ct33), sl33⟩)
    (c33 : PySem.W.codeIn K cd33 "_law_tame" = true)
    (k33 : PySem.W.keepIn K (.ref f33) = true)
    (a34 : PySem.W.nsIn K mainGlobals "law" = some (some (.ref f34)))
    (l34 : K.lookup f34 = some ⟨oc34, od34, .func (PySem.W.fnOf "law" "law" (defArgs s_f_law) (defBody s_f_law) (defScope s_f_law) .none kV34 dc34 pm34 an34 cd34 ct34), sl34⟩)
    (c34 : PySem.W.codeIn K cd34 "law" = true)
    (k34 : PySem.W.keepIn K (.ref f34) = true)
    (z_len : PySem.W.nsIn K mainGlobals "len" = some none)
    (z_int : PySem.W.nsIn K mainGlobals "int" = some none)
    (z_range : PySem.W.nsIn K mainGlobals "range" = some none)
    (z_tuple : PySem.W.nsIn K mainGlobals "tuple" = some none)
    (z_enumerate : PySem.W.nsIn K mainGlobals "enumerate" = some none)
    (z_sum : PySem.W.nsIn K mainGlobals "sum" = some none)
    (z_dict : PySem.W.nsIn K mainGlobals "dict" = some none)
    (z_list : PySem.W.nsIn K mainGlobals "list" = some none)
    (z_str : PySem.W.nsIn K mainGlobals "str" = some none)
    (z_zip : PySem.W.nsIn K mainGlobals "zip" = some none)
    (z_isinstance : PySem.W.nsIn K mainGlobals "isinstance" = some none)
    (z_bool : PySem.W.nsIn K mainGlobals "bool" = some none)
    (z_max : PySem.W.nsIn K mainGlobals "max" = some none)
    (z_min : PySem.W.nsIn K mainGlobals "min" = some none)
    (y_WORDS : PySem.W.nsIn K mainGlobals "WORDS" = some (some (.ref a_WORDS)))
    (ld_WORDS : K.lookup a_WORDS = some ⟨.type "dict", none, .dict es_WORDS n_WORDS, #[]⟩)
    (kl_WORDS : PySem.W.KeysLit w.params es_WORDS.toList)
    (sm_WORDS : (a_WORDS == sysModules) = false)
    (v_WORDS_0 : PySem.W.nsIn K a_WORDS "same" = some (some (.str "=" tv_WORDS_0)))
    (v_WORDS_1 : PySem.W.nsIn K a_WORDS "under" = some (some (.str "under" tv_WORDS_1)))
    (y_MOST_BITS : PySem.W.nsIn K mainGlobals "MOST_BITS" = some (some (.int 1000000 t_MOST_BITS)))
    : ∃ fd : FuncData, (∀ (s : Shared) (v : Value), BindsTo s fd ⟨[v], []⟩ [("script", v)]) ∧ ∀ base : Heap, K.In base → base.Ns mainGlobals mg → FnG l.prog w K mg base CX0 45 fa fd ["script"] (sp_f_law K) := by
  have e := hfa.symm.trans (PySem.W.mg_of X G a34)
  cases e
  have m_len : mg "len" = none := PySem.W.mg_none_of X G z_len
  have m_int : mg "int" = none := PySem.W.mg_none_of X G z_int
  have m_range : mg "range" = none := PySem.W.mg_none_of X G z_range
  have m_tuple : mg "tuple" = none := PySem.W.mg_none_of X G z_tuple
  have m_enumerate : mg "enumerate" = none := PySem.W.mg_none_of X G z_enumerate
  have m_sum : mg "sum" = none := PySem.W.mg_none_of X G z_sum
  have m_dict : mg "dict" = none := PySem.W.mg_none_of X G z_dict
  have m_list : mg "list" = none := PySem.W.mg_none_of X G z_list
  have m_str : mg "str" = none := PySem.W.mg_none_of X G z_str
  have m_zip : mg "zip" = none := PySem.W.mg_none_of X G z_zip
  have m_isinstance : mg "isinstance" = none := PySem.W.mg_none_of X G z_isinstance
  have m_bool : mg "bool" = none := PySem.W.mg_none_of X G z_bool
  have m_max : mg "max" = none := PySem.W.mg_none_of X G z_max
  have m_min : mg "min" = none := PySem.W.mg_none_of X G z_min
  have c_WORDS := PySem.W.mg_of X G y_WORDS
  have d_WORDS : KDs K w a_WORDS ["same", "under"] := by
    refine ⟨sm_WORDS, fun z hz => ?_⟩
    rcases List.mem_cons.mp hz with rfl | hz
    · exact ⟨.str (Str.ofString "="), _, _, _, ld_WORDS, kl_WORDS, v_WORDS_0, ⟨_, rfl⟩⟩
    rcases List.mem_cons.mp hz with rfl | hz
    · exact ⟨.str (Str.ofString "under"), _, _, _, ld_WORDS, kl_WORDS, v_WORDS_1, ⟨_, rfl⟩⟩
    cases hz
  have c_MOST_BITS := PySem.W.mg_of X G y_MOST_BITS
  have SC_Saying : ClsN K "Saying" C_Saying ["word", "left", "right"] := ⟨⟨⟨pg_Saying, hd_Saying, po_Saying, sa_Saying⟩, by
    intro f hf
    rcases List.mem_cons.mp hf with rfl | hf
    · exact na_Saying_word
    rcases List.mem_cons.mp hf with rfl | hf
    · exact na_Saying_left
    rcases List.mem_cons.mp hf with rfl | hf
    · exact na_Saying_right
    cases hf⟩, g_Saying⟩
  have OC_Saying : ClsO K C_Saying := ⟨o1_Saying, o2_Saying, o3_Saying, o4, o5, o6_Saying⟩
  have n_Saying := PySem.W.mg_of X G g_Saying
  have F0 := fun_mk (st := s_f_law_box) l0 c0 k0
  have F1 := fun_mk (st := s_f_law_take) l1 c1 k1
  have F2 := fun_mk (st := s_f_law_piece) l2 c2 k2
  have F3 := fun_mk (st := s_f_law_ending_rows) l3 c3 k3
  have F4 := fun_mk (st := s_f_law_row) l4 c4 k4
  have F5 := fun_mk (st := s_f_law_any_rows) l5 c5 k5
  have F6 := fun_mk (st := s_f_law_some_program) l6 c6 k6
  have F7 := fun_mk (st := s_f_law_begin) l7 c7 k7
  have F8 := fun_mk (st := s_f_law_after) l8 c8 k8
  have F9 := fun_mk (st := s_f_law_run) l9 c9 k9
  have F10 := fun_mk (st := s_f_law_stopping) l10 c10 k10
  have F11 := fun_mk (st := s_f_law_asked) l11 c11 k11
  have F12 := fun_mk (st := s_f_law_answer) l12 c12 k12
  have F13 := fun_mk (st := s_f_law_named) l13 c13 k13
  have F14 := fun_mk (st := s_f_law_row_sayings) l14 c14 k14
  have F15 := fun_mk (st := s_f_law_sum) l15 c15 k15
  have F16 := fun_mk (st := s_f_law_sayings) l16 c16 k16
  have F17 := fun_mk (st := s_f_Saying__init) l17 c17 k17
  have F18 := fun_mk (st := s_f_let_by) l18 c18 k18
  have F19 := fun_mk (st := s_f_power_of) l19 c19 k19
  have F20 := fun_mk (st := s_f_product) l20 c20 k20
  have F21 := fun_mk (st := s_f_come_to) l21 c21 k21
  have F22 := fun_mk (st := s_f_number_of) l22 c22 k22
  have F23 := fun_mk (st := s_f_worth) l23 c23 k23
  have F24 := fun_mk (st := s_f_fits) l24 c24 k24
  have F25 := fun_mk (st := s_f_holds) l25 c25 k25
  have F26 := fun_mk (st := s_f_first_wrong) l26 c26 k26
  have F27 := fun_mk (st := s_f_law_worth) l27 c27 k27
  have F28 := fun_mk (st := s_f_law_holds) l28 c28 k28
  have F29 := fun_mk (st := s_f_law_first) l29 c29 k29
  have F30 := fun_mk (st := s_f_law_right) l30 c30 k30
  have F31 := fun_mk (st := s_f_law_least_c) l31 c31 k31
  have F32 := fun_mk (st := s_f_law_spoilt) l32 c32 k32
  have F33 := fun_mk (st := s_f_law_tame) l33 c33 k33
  have F34 := fun_mk (st := s_f_law) l34 c34 k34
  refine ⟨PySem.W.fnOf "law" "law" (defArgs s_f_law) (defBody s_f_law) (defScope s_f_law) .none kV34 dc34 pm34 an34 cd34 ct34, fun s v => .of_eq rfl, fun base _ _ => ?_⟩
  have O0 : FnG l.prog w K mg base CX0 1 f0 _ ["script", "k"] (sp_f_law_box K) := ok_f_law_box F0 m_len m_int
  have D_f_law_box : Def l.prog w K mg base CX0 "_law_box" 1 ["script", "k"] (sp_f_law_box K) := ⟨f0, _, PySem.W.mg_of X G a0, O0, k0, F0.binds (ps := ["script", "k"]) fun _ _ _ _ _ _ us hl => match us, hl with | [_, _], _ => rfl⟩
  have O1 : FnG l.prog w K mg base CX0 1 f1 _ ["box", "wide"] (sp_f_law_take K) := ok_f_law_take F1
  have D_f_law_take : Def l.prog w K mg base CX0 "_law_take" 1 ["box", "wide"] (sp_f_law_take K) := ⟨f1, _, PySem.W.mg_of X G a1, O1, k1, F1.binds (ps := ["box", "wide"]) fun _ _ _ _ _ _ us hl => match us, hl with | [_, _], _ => rfl⟩
  have O2 : FnG l.prog w K mg base CX0 2 f2 _ ["box", "boxes", "at"] (sp_f_law_piece K) := ok_f_law_piece F2 D_f_law_take m_range m_len m_int
  have D_f_law_piece : Def l.prog w K mg base CX0 "_law_piece" 2 ["box", "boxes", "at"] (sp_f_law_piece K) := ⟨f2, _, PySem.W.mg_of X G a2, O2, k2, F2.binds (ps := ["box", "boxes", "at"]) fun _ _ _ _ _ _ us hl => match us, hl with | [_, _, _], _ => rfl⟩
  have O3 : FnG l.prog w K mg base CX0 3 f3 _ ["box", "boxes"] (sp_f_law_ending_rows K) := ok_f_law_ending_rows F3 D_f_law_piece D_f_law_take m_range m_len
  have D_f_law_ending_rows : Def l.prog w K mg base CX0 "_law_ending_rows" 3 ["box", "boxes"] (sp_f_law_ending_rows K) := ⟨f3, _, PySem.W.mg_of X G a3, O3, k3, F3.binds (ps := ["box", "boxes"]) fun _ _ _ _ _ _ us hl => match us, hl with | [_, _], _ => rfl⟩
  have O4 : FnG l.prog w K mg base CX0 2 f4 _ ["box", "boxes", "many"] (sp_f_law_row K) := ok_f_law_row F4 D_f_law_take
  have D_f_law_row : Def l.prog w K mg base CX0 "_law_row" 2 ["box", "boxes", "many"] (sp_f_law_row K) := ⟨f4, _, PySem.W.mg_of X G a4, O4, k4, F4.binds (ps := ["box", "boxes", "many"]) fun _ _ _ _ _ _ us hl => match us, hl with | [_, _, _], _ => rfl⟩
  have O5 : FnG l.prog w K mg base CX0 3 f5 _ ["box", "boxes"] (sp_f_law_any_rows K) := ok_f_law_any_rows F5 D_f_law_take D_f_law_row m_range
  have D_f_law_any_rows : Def l.prog w K mg base CX0 "_law_any_rows" 3 ["box", "boxes"] (sp_f_law_any_rows K) := ⟨f5, _, PySem.W.mg_of X G a5, O5, k5, F5.binds (ps := ["box", "boxes"]) fun _ _ _ _ _ _ us hl => match us, hl with | [_, _], _ => rfl⟩
  have O6 : FnG l.prog w K mg base CX0 4 f6 _ ["box"] (sp_f_law_some_program K) := ok_f_law_some_program F6 D_f_law_take D_f_law_ending_rows D_f_law_any_rows
  have D_f_law_some_program : Def l.prog w K mg base CX0 "_law_some_program" 4 ["box"] (sp_f_law_some_program K) := ⟨f6, _, PySem.W.mg_of X G a6, O6, k6, F6.binds (ps := ["box"]) fun _ _ _ _ _ _ us hl => match us, hl with | [_], _ => rfl⟩
  have O7 : FnG l.prog w K mg base CX0 2 f7 _ ["box", "boxes"] (sp_f_law_begin K) := ok_f_law_begin F7 D_f_law_take m_range m_int
  have D_f_law_begin : Def l.prog w K mg base CX0 "_law_begin" 2 ["box", "boxes"] (sp_f_law_begin K) := ⟨f7, _, PySem.W.mg_of X G a7, O7, k7, F7.binds (ps := ["box", "boxes"]) fun _ _ _ _ _ _ us hl => match us, hl with | [_, _], _ => rfl⟩
  have O8 : FnG l.prog w K mg base CX0 1 f8 _ ["rows", "stand"] (sp_f_law_after K) := ok_f_law_after F8 m_int
  have D_f_law_after : Def l.prog w K mg base CX0 "_law_after" 1 ["rows", "stand"] (sp_f_law_after K) := ⟨f8, _, PySem.W.mg_of X G a8, O8, k8, F8.binds (ps := ["rows", "stand"]) fun _ _ _ _ _ _ us hl => match us, hl with | [_, _], _ => rfl⟩
  have O9 : FnG l.prog w K mg base CX0 2 f9 _ ["rows", "begin", "limit"] (sp_f_law_run K) := ok_f_law_run F9 D_f_law_after m_tuple m_len
  have D_f_law_run : Def l.prog w K mg base CX0 "_law_run" 2 ["rows", "begin", "limit"] (sp_f_law_run K) := ⟨f9, _, PySem.W.mg_of X G a9, O9, k9, F9.binds (ps := ["rows", "begin", "limit"]) fun _ _ _ _ _ _ us hl => match us, hl with | [_, _, _], _ => rfl⟩
  have O10 : FnG l.prog w K mg base CX0 5 f10 _ ["box", "limit"] (sp_f_law_stopping K) := ok_f_law_stopping F10 D_f_law_some_program D_f_law_begin D_f_law_run m_range m_tuple
  have D_f_law_stopping : Def l.prog w K mg base CX0 "_law_stopping" 5 ["box", "limit"] (sp_f_law_stopping K) := ⟨f10, _, PySem.W.mg_of X G a10, O10, k10, F10.binds (ps := ["box", "limit"]) fun _ _ _ _ _ _ us hl => match us, hl with | [_, _], _ => rfl⟩
  have O11 : FnG l.prog w K mg base CX0 1 f11 _ ["boxes", "rows"] (sp_f_law_asked K) := ok_f_law_asked F11 m_range m_enumerate
  have D_f_law_asked : Def l.prog w K mg base CX0 "_law_asked" 1 ["boxes", "rows"] (sp_f_law_asked K) := ⟨f11, _, PySem.W.mg_of X G a11, O11, k11, F11.binds (ps := ["boxes", "rows"]) fun _ _ _ _ _ _ us hl => match us, hl with | [_, _], _ => rfl⟩
  have O12 : FnG l.prog w K mg base CX0 2 f12 _ ["boxes", "rows", "begin", "stands", "c"] (sp_f_law_answer K) := ok_f_law_answer F12 D_f_law_asked m_range m_sum m_len m_dict m_list m_str m_zip m_enumerate
  have D_f_law_answer : Def l.prog w K mg base CX0 "_law_answer" 2 ["boxes", "rows", "begin", "stands", "c"] (sp_f_law_answer K) := ⟨f12, _, PySem.W.mg_of X G a12, O12, k12, F12.binds (ps := ["boxes", "rows", "begin", "stands", "c"]) fun _ _ _ _ _ _ us hl => match us, hl with | [_, _, _, _, _], _ => rfl⟩
  have O13 : FnG l.prog w K mg base CX0 1 f13 _ ["letter", "numbers"] (sp_f_law_named K) := ok_f_law_named F13 m_str
  have D_f_law_named : Def l.prog w K mg base CX0 "_law_named" 1 ["letter", "numbers"] (sp_f_law_named K) := ⟨f13, _, PySem.W.mg_of X G a13, O13, k13, F13.binds (ps := ["letter", "numbers"]) fun _ _ _ _ _ _ us hl => match us, hl with | [_, _], _ => rfl⟩
  have O14 : FnG l.prog w K mg base CX0 1 f14 _ ["rows", "k", "done", "left"] (sp_f_law_row_sayings K) := ok_f_law_row_sayings F14 m_str
  have D_f_law_row_sayings : Def l.prog w K mg base CX0 "_law_row_sayings" 1 ["rows", "k", "done", "left"] (sp_f_law_row_sayings K) := ⟨f14, _, PySem.W.mg_of X G a14, O14, k14, F14.binds (ps := ["rows", "k", "done", "left"]) fun _ _ _ _ _ _ us hl => match us, hl with | [_, _, _, _], _ => rfl⟩
  have O15 : FnG l.prog w K mg base CX0 1 f15 _ ["terms"] (sp_f_law_sum K) := ok_f_law_sum F15 m_len
  have D_f_law_sum : Def l.prog w K mg base CX0 "_law_sum" 1 ["terms"] (sp_f_law_sum K) := ⟨f15, _, PySem.W.mg_of X G a15, O15, k15, F15.binds (ps := ["terms"]) fun _ _ _ _ _ _ us hl => match us, hl with | [_], _ => rfl⟩
  have O16 : FnG l.prog w K mg base CX0 2 f16 _ ["boxes", "rows"] (sp_f_law_sayings K) := ok_f_law_sayings F16 D_f_law_asked D_f_law_named D_f_law_row_sayings D_f_law_sum m_enumerate m_range m_list m_str m_len
  have D_f_law_sayings : Def l.prog w K mg base CX0 "_law_sayings" 2 ["boxes", "rows"] (sp_f_law_sayings K) := ⟨f16, _, PySem.W.mg_of X G a16, O16, k16, F16.binds (ps := ["boxes", "rows"]) fun _ _ _ _ _ _ us hl => match us, hl with | [_, _], _ => rfl⟩
  have O17 : FnG l.prog w K mg base CX0 1 f17 _ ["self", "word", "left", "right"] (sp_f_Saying__init K) := ok_f_Saying__init F17 c_WORDS d_WORDS
  have G_Saying : DefM l.prog w K mg base CX0 "Saying" 1 ["self", "word", "left", "right"] (sp_f_Saying__init K) C_Saying := ⟨f17, _, PySem.W.mg_of X G g_Saying, ⟨mk_Saying, a17, i17, kc_Saying⟩, O17, F17.binds (ps := ["self", "word", "left", "right"]) fun _ _ _ _ _ _ us hl => match us, hl with | [_, _, _, _], _ => rfl⟩
  have O18 : FnG l.prog w K mg base CX0 1 f18 _ ["number"] (sp_f_let_by K) := ok_f_let_by F18 c_MOST_BITS
  have D_f_let_by : Def l.prog w K mg base CX0 "let_by" 1 ["number"] (sp_f_let_by K) := ⟨f18, _, PySem.W.mg_of X G a18, O18, k18, F18.binds (ps := ["number"]) fun _ _ _ _ _ _ us hl => match us, hl with | [_], _ => rfl⟩
  have O19 : FnG l.prog w K mg base CX0 2 f19 _ ["base", "n"] (sp_f_power_of K) := ok_f_power_of F19 D_f_let_by m_int c_MOST_BITS
  have D_f_power_of : Def l.prog w K mg base CX0 "power_of" 2 ["base", "n"] (sp_f_power_of K) := ⟨f19, _, PySem.W.mg_of X G a19, O19, k19, F19.binds (ps := ["base", "n"]) fun _ _ _ _ _ _ us hl => match us, hl with | [_, _], _ => rfl⟩
  have O20 : FnG l.prog w K mg base CX0 2 f20 _ ["one", "other"] (sp_f_product K) := ok_f_product F20 D_f_let_by c_MOST_BITS
  have D_f_product : Def l.prog w K mg base CX0 "product" 2 ["one", "other"] (sp_f_product K) := ⟨f20, _, PySem.W.mg_of X G a20, O20, k20, F20.binds (ps := ["one", "other"]) fun _ _ _ _ _ _ us hl => match us, hl with | [_, _], _ => rfl⟩
  have O21 : FnG l.prog w K mg base CX0 3 f21 _ ["word", "one", "other"] (sp_f_come_to K) := ok_f_come_to F21 D_f_power_of D_f_let_by D_f_product
  have D_f_come_to : Def l.prog w K mg base CX0 "come_to" 3 ["word", "one", "other"] (sp_f_come_to K) := ⟨f21, _, PySem.W.mg_of X G a21, O21, k21, F21.binds (ps := ["word", "one", "other"]) fun _ _ _ _ _ _ us hl => match us, hl with | [_, _, _], _ => rfl⟩
  have O22 : FnG l.prog w K mg base CX0 1 f22 _ ["name", "answer"] (sp_f_number_of K) := ok_f_number_of F22
  have D_f_number_of : Def l.prog w K mg base CX0 "number_of" 1 ["name", "answer"] (sp_f_number_of K) := ⟨f22, _, PySem.W.mg_of X G a22, O22, k22, F22.binds (ps := ["name", "answer"]) fun _ _ _ _ _ _ us hl => match us, hl with | [_, _], _ => rfl⟩
  have O23 : FnG l.prog w K mg base CX0 4 f23 _ ["term", "answer"] (sp_f_worth K) := ok_f_worth F23 D_f_come_to D_f_let_by D_f_number_of m_len
  have D_f_worth : Def l.prog w K mg base CX0 "worth" 4 ["term", "answer"] (sp_f_worth K) := ⟨f23, _, PySem.W.mg_of X G a23, O23, k23, F23.binds (ps := ["term", "answer"]) fun _ _ _ _ _ _ us hl => match us, hl with | [_, _], _ => rfl⟩
  have O24 : FnG l.prog w K mg base CX0 1 f24 _ ["one", "other"] (sp_f_fits K) := ok_f_fits F24
  have D_f_fits : Def l.prog w K mg base CX0 "fits" 1 ["one", "other"] (sp_f_fits K) := ⟨f24, _, PySem.W.mg_of X G a24, O24, k24, F24.binds (ps := ["one", "other"]) fun _ _ _ _ _ _ us hl => match us, hl with | [_, _], _ => rfl⟩
  have O25 : FnG l.prog w K mg base CX0 5 f25 _ ["saying", "answer"] (sp_f_holds K) := ok_f_holds F25 D_f_worth D_f_fits
  have D_f_holds : Def l.prog w K mg base CX0 "holds" 5 ["saying", "answer"] (sp_f_holds K) := ⟨f25, _, PySem.W.mg_of X G a25, O25, k25, F25.binds (ps := ["saying", "answer"]) fun _ _ _ _ _ _ us hl => match us, hl with | [_, _], _ => rfl⟩
  have O26 : FnG l.prog w K mg base CX0 6 f26 _ ["sayings", "answer"] (sp_f_first_wrong K) := ok_f_first_wrong F26 D_f_holds m_enumerate
  have D_f_first_wrong : Def l.prog w K mg base CX0 "first_wrong" 6 ["sayings", "answer"] (sp_f_first_wrong K) := ⟨f26, _, PySem.W.mg_of X G a26, O26, k26, F26.binds (ps := ["sayings", "answer"]) fun _ _ _ _ _ _ us hl => match us, hl with | [_, _], _ => rfl⟩
  have R27 : ∀ m : Nat, FnG l.prog w K mg base CX0 (0 + m) f27 (PySem.W.fnOf "_law_worth" "_law_worth" (defArgs s_f_law_worth) (defBody s_f_law_worth) (defScope s_f_law_worth) .none kV27 dc27 pm27 an27 cd27 ct27) ["term", "answer"] (spR_f_law_worth K m) := by
    intro m
    induction m with
    | zero => exact FnG.no (fun _ _ _ _ h => h)
    | succ m ih =>
      have D_f_law_worth : Def l.prog w K mg base CX0 "_law_worth" (0 + m) ["term", "answer"] (spR_f_law_worth K m) := ⟨f27, _, PySem.W.mg_of X G a27, ih, k27, F27.binds (ps := ["term", "answer"]) fun _ _ _ _ _ _ us hl => match us, hl with | [_, _], _ => rfl⟩
      exact ok_f_law_worth F27 D_f_law_worth
  have O27 : FnG l.prog w K mg base CX0 40 f27 _ ["term", "answer"] (sp_f_law_worth K) := R27 40
  have D_f_law_worth : Def l.prog w K mg base CX0 "_law_worth" 41 ["term", "answer"] (sp_f_law_worth K) := ⟨f27, _, PySem.W.mg_of X G a27, O27.mono (by omega), k27, F27.binds (ps := ["term", "answer"]) fun _ _ _ _ _ _ us hl => match us, hl with | [_, _], _ => rfl⟩
  have O28 : FnG l.prog w K mg base CX0 42 f28 _ ["saying", "answer"] (sp_f_law_holds K) := ok_f_law_holds F28 D_f_law_worth
  have D_f_law_holds : Def l.prog w K mg base CX0 "_law_holds" 42 ["saying", "answer"] (sp_f_law_holds K) := ⟨f28, _, PySem.W.mg_of X G a28, O28, k28, F28.binds (ps := ["saying", "answer"]) fun _ _ _ _ _ _ us hl => match us, hl with | [_, _], _ => rfl⟩
  have O29 : FnG l.prog w K mg base CX0 43 f29 _ ["sayings", "answer"] (sp_f_law_first K) := ok_f_law_first F29 D_f_law_holds m_enumerate
  have D_f_law_first : Def l.prog w K mg base CX0 "_law_first" 43 ["sayings", "answer"] (sp_f_law_first K) := ⟨f29, _, PySem.W.mg_of X G a29, O29, k29, F29.binds (ps := ["sayings", "answer"]) fun _ _ _ _ _ _ us hl => match us, hl with | [_, _], _ => rfl⟩
  have O30 : FnG l.prog w K mg base CX0 44 f30 _ ["sayings", "answer", "at"] (sp_f_law_right K) := ok_f_law_right F30 G_Saying SC_Saying D_f_first_wrong D_f_law_first m_list m_isinstance m_bool m_tuple
  have D_f_law_right : Def l.prog w K mg base CX0 "_law_right" 44 ["sayings", "answer", "at"] (sp_f_law_right K) := ⟨f30, _, PySem.W.mg_of X G a30, O30, k30, F30.binds (ps := ["sayings", "answer", "at"]) fun _ _ _ _ _ _ us hl => match us, hl with | [_, _, _], _ => rfl⟩
  have O31 : FnG l.prog w K mg base CX0 1 f31 _ ["rows", "begin", "stands"] (sp_f_law_least_c K) := ok_f_law_least_c F31 m_max m_len m_sum
  have D_f_law_least_c : Def l.prog w K mg base CX0 "_law_least_c" 1 ["rows", "begin", "stands"] (sp_f_law_least_c K) := ⟨f31, _, PySem.W.mg_of X G a31, O31, k31, F31.binds (ps := ["rows", "begin", "stands"]) fun _ _ _ _ _ _ us hl => match us, hl with | [_, _, _], _ => rfl⟩
  have O32 : FnG l.prog w K mg base CX0 2 f32 _ ["box", "answer"] (sp_f_law_spoilt K) := ok_f_law_spoilt F32 D_f_law_take m_list m_dict m_max m_len
  have D_f_law_spoilt : Def l.prog w K mg base CX0 "_law_spoilt" 2 ["box", "answer"] (sp_f_law_spoilt K) := ⟨f32, _, PySem.W.mg_of X G a32, O32, k32, F32.binds (ps := ["box", "answer"]) fun _ _ _ _ _ _ us hl => match us, hl with | [_, _], _ => rfl⟩
  have O33 : FnG l.prog w K mg base CX0 1 f33 _ ["answer"] (sp_f_law_tame K) := ok_f_law_tame F33
  have D_f_law_tame : Def l.prog w K mg base CX0 "_law_tame" 1 ["answer"] (sp_f_law_tame K) := ⟨f33, _, PySem.W.mg_of X G a33, O33, k33, F33.binds (ps := ["answer"]) fun _ _ _ _ _ _ us hl => match us, hl with | [_], _ => rfl⟩
  exact ok_f_law F34 D_f_law_box D_f_law_take D_f_law_stopping D_f_law_answer D_f_law_sayings D_f_law_right D_f_law_least_c D_f_first_wrong D_f_law_spoilt D_f_law_tame m_range m_max m_min m_len m_int
end Rs
open PySem PySem.W PyProof.Rows
set_option maxHeartbeats 0 in
theorem PySem.Challenge.cw_runsums_k43_the_first_that_fails_holds : PySem.Challenge.rw_runsums_k43_the_first_that_fails.Holds := by
  w_on; o_law; k_head; (case hw => w_witness2)
  k_fill
  refine Rs.walk_g (l := PySem.Challenge.rw_runsums_k43_the_first_that_fails) (n := 63) (k := 45) (x := "script") (CX := fun _ => L2.CX0) (sp := fun w => Rs.sp_f_law _) rfl (by decide) rfl ⟨⟨rfl, by decide, by decide⟩, rfl, by decide⟩ (fun w h Y => PySem.W.kIn_of Y) ?F (fun _ _ a ns hl hO hS => ⟨a, ns, rfl, Rs.SqF.of hO hS, hl, fun _ => rfl⟩) (fun _ _ _ _ _ h => h)
  case F =>
    intro w mg fa h KX G hmg
    refine' Rs.all_mk KX G hmg ?g_Saying ?mk_Saying ?kc_Saying ?pg_Saying ?hd_Saying ?po_Saying ?sa_Saying ?o1_Saying ?o2_Saying ?o3_Saying ?o6_Saying ?na_Saying_word ?na_Saying_left ?na_Saying_right ?o4 ?o5 ?a0 ?l0 ?c0 ?k0 ?a1 ?l1 ?c1 ?k1 ?a2 ?l2 ?c2 ?k2 ?a3 ?l3 ?c3 ?k3 ?a4 ?l4 ?c4 ?k4 ?a5 ?l5 ?c5 ?k5 ?a6 ?l6 ?c6 ?k6 ?a7 ?l7 ?c7 ?k7 ?a8 ?l8 ?c8 ?k8 ?a9 ?l9 ?c9 ?k9 ?a10 ?l10 ?c10 ?k10 ?a11 ?l11 ?c11 ?k11 ?a12 ?l12 ?c12 ?k12 ?a13 ?l13 ?c13 ?k13 ?a14 ?l14 ?c14 ?k14 ?a15 ?l15 ?c15 ?k15 ?a16 ?l16 ?c16 ?k16 ?a17 ?i17 ?l17 ?c17 ?k17 ?a18 ?l18 ?c18 ?k18 ?a19 ?l19 ?c19 ?k19 ?a20 ?l20 ?c20 ?k20 ?a21 ?l21 ?c21 ?k21 ?a22 ?l22 ?c22 ?k22 ?a23 ?l23 ?c23 ?k23 ?a24 ?l24 ?c24 ?k24 ?a25 ?l25 ?c25 ?k25 ?a26 ?l26 ?c26 ?k26 ?a27 ?l27 ?c27 ?k27 ?a28 ?l28 ?c28 ?k28 ?a29 ?l29 ?c29 ?k29 ?a30 ?l30 ?c30 ?k30 ?a31 ?l31 ?c31 ?k31 ?a32 ?l32 ?c32 ?k32 ?a33 ?l33 ?c33 ?k33 ?a34 ?l34 ?c34 ?k34 ?z_len ?z_int ?z_range ?z_tuple ?z_enumerate ?z_sum ?z_dict ?z_list ?z_str ?z_zip ?z_isinstance ?z_bool ?z_max ?z_min ?y_WORDS ?ld_WORDS ?kl_WORDS ?sm_WORDS ?v_WORDS_0 ?v_WORDS_1 ?y_MOST_BITS
    (case g_Saying => k_is)
    (case mk_Saying => k_is)
    (case kc_Saying => k_is)
    (case pg_Saying => k_is)
    (case hd_Saying => k_is)
    (case po_Saying => k_is)
    (case sa_Saying => k_is)
    (case o1_Saying => k_is)
    (case o2_Saying => k_is)
    (case o3_Saying => k_is)
    (case o6_Saying => exact if_pos (beq_self_eq_true _))
    (case na_Saying_word => k_is)
    (case na_Saying_left => k_is)
    (case na_Saying_right => k_is)
    (case o4 => k_is)
    (case o5 => k_is)
    (case a0 => k_is)
    (case l0 => k_is)
    (case c0 => k_is)
    (case k0 => k_is)
    (case a1 => k_is)
    (case l1 => k_is)
    (case c1 => k_is)
    (case k1 => k_is)
    (case a2 => k_is)
    (case l2 => k_is)
    (case c2 => k_is)
    (case k2 => k_is)
    (case a3 => k_is)
    (case l3 => k_is)
    (case c3 => k_is)
    (case k3 => k_is)
    (case a4 => k_is)
    (case l4 => k_is)
    (case c4 => k_is)
    (case k4 => k_is)
    (case a5 => k_is)
    (case l5 => k_is)
    (case c5 => k_is)
    (case k5 => k_is)
    (case a6 => k_is)
    (case l6 => k_is)
    (case c6 => k_is)
    (case k6 => k_is)
    (case a7 => k_is)
    (case l7 => k_is)
    (case c7 => k_is)
    (case k7 => k_is)
    (case a8 => k_is)
    (case l8 => k_is)
    (case c8 => k_is)
    (case k8 => k_is)
    (case a9 => k_is)
    (case l9 => k_is)
    (case c9 => k_is)
    (case k9 => k_is)
    (case a10 => k_is)
    (case l10 => k_is)
    (case c10 => k_is)
    (case k10 => k_is)
    (case a11 => k_is)
    (case l11 => k_is)
    (case c11 => k_is)
    (case k11 => k_is)
    (case a12 => k_is)
    (case l12 => k_is)
    (case c12 => k_is)
    (case k12 => k_is)
    (case a13 => k_is)
    (case l13 => k_is)
    (case c13 => k_is)
    (case k13 => k_is)
    (case a14 => k_is)
    (case l14 => k_is)
    (case c14 => k_is)
    (case k14 => k_is)
    (case a15 => k_is)
    (case l15 => k_is)
    (case c15 => k_is)
    (case k15 => k_is)
    (case a16 => k_is)
    (case l16 => k_is)
    (case c16 => k_is)
    (case k16 => k_is)
    (case a17 => k_is)
    (case i17 => k_is)
    (case l17 => k_is)
    (case c17 => k_is)
    (case k17 => k_is)
    (case a18 => k_is)
    (case l18 => k_is)
    (case c18 => k_is)
    (case k18 => k_is)
    (case a19 => k_is)
    (case l19 => k_is)
    (case c19 => k_is)
    (case k19 => k_is)
    (case a20 => k_is)
    (case l20 => k_is)
    (case c20 => k_is)
    (case k20 => k_is)
    (case a21 => k_is)
    (case l21 => k_is)
    (case c21 => k_is)
    (case k21 => k_is)
    (case a22 => k_is)
    (case l22 => k_is)
    (case c22 => k_is)
    (case k22 => k_is)
    (case a23 => k_is)
    (case l23 => k_is)
    (case c23 => k_is)
    (case k23 => k_is)
    (case a24 => k_is)
    (case l24 => k_is)
    (case c24 => k_is)
    (case k24 => k_is)
    (case a25 => k_is)
    (case l25 => k_is)
    (case c25 => k_is)
    (case k25 => k_is)
    (case a26 => k_is)
    (case l26 => k_is)
    (case c26 => k_is)
    (case k26 => k_is)
    (case a27 => k_is)
    (case l27 => k_is)
    (case c27 => k_is)
    (case k27 => k_is)
    (case a28 => k_is)
    (case l28 => k_is)
    (case c28 => k_is)
    (case k28 => k_is)
    (case a29 => k_is)
    (case l29 => k_is)
    (case c29 => k_is)
    (case k29 => k_is)
    (case a30 => k_is)
    (case l30 => k_is)
    (case c30 => k_is)
    (case k30 => k_is)
    (case a31 => k_is)
    (case l31 => k_is)
    (case c31 => k_is)
    (case k31 => k_is)
    (case a32 => k_is)
    (case l32 => k_is)
    (case c32 => k_is)
    (case k32 => k_is)
    (case a33 => k_is)
    (case l33 => k_is)
    (case c33 => k_is)
    (case k33 => k_is)
    (case a34 => k_is)
    (case l34 => k_is)
    (case c34 => k_is)
    (case k34 => k_is)
    (case z_len => k_is)
    (case z_int => k_is)
    (case z_range => k_is)
    (case z_tuple => k_is)
    (case z_enumerate => k_is)
    (case z_sum => k_is)
    (case z_dict => k_is)
    (case z_list => k_is)
    (case z_str => k_is)
    (case z_zip => k_is)
    (case z_isinstance => k_is)
    (case z_bool => k_is)
    (case z_max => k_is)
    (case z_min => k_is)
    (case y_WORDS => k_is)
    (case ld_WORDS => k_is)
    (case kl_WORDS => exact ⟨⟨_, _, rfl, rfl⟩, ⟨_, _, rfl, rfl⟩, trivial⟩)
    (case sm_WORDS => first | rfl | decide)
    (case v_WORDS_0 => k_is)
    (case v_WORDS_1 => k_is)
    (case y_MOST_BITS => k_is)
