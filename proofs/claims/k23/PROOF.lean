import PyProof.Rows.All
import Wide.All
import OpenK.AllK
import Wide.FinOn
import HandS.ForMost
import HandS.ForExc
import HandS.Flow
import HandS.Style
import HandS.Wide
import HandS.WideMore
import HandS.WideBits
import HandS.IsInst
import HandS.Rev
import HandS.Walk
import HandS.IntHex
import HandS.SortKw
import KE.GoesEnumKw
import HandS.Zip
import KE.GoesMore
import HandS.More
import HandS.DictComp
import HandS.ListItems
import HandS.TupAny
import HandS.Defaults
import PyProof.P3Eq
import HandS.FStr
import HandS.Conv
import KE.KTupSum
import KE.DataMinMax
import PySem.Challenge.RW_runsums_k23_parts_depths_sums
set_option Elab.async false
set_option linter.all false
set_option maxRecDepth 100000
set_option maxHeartbeats 4000000
set_option exponentiation.threshold 20000
namespace Rs
open PySem L2 PyProof.Rows
abbrev Sm := L2.Same
/-! ### rules side by side -/
section
variable {X : Cx}
theorem op_or {f : Value → Value → Sem Value} {r r' : R2} (h : OpR X f r) (h' : OpR X f r') : OpR X f (fun x y H Q => r x y H Q ∨ r' x y H Q) := by
  intro pins s σ H x y v u Q I rx ry q
  rcases q with q | q
  · exact h pins s σ H x y v u Q I rx ry q
  · exact h' pins s σ H x y v u Q I rx ry q
theorem cr_or {f : Value} {r r' : List V → Hp → VK → Prop} (h : CallR X f r) (h' : CallR X f r') : CallR X f (fun xs H Q => r xs H Q ∨ r' xs H Q) := by
  intro pins s σ H xs us Q I rx q
  rcases q with q | q
  · exact h pins s σ H xs us Q I rx q
  · exact h' pins s σ H xs us Q I rx q
def gAdd (K : PySem.W.Frag) : R2 := fun x y H Q => rI0 (fun i j => .int (i + j)) x y H Q ∨ ((∃ i j, x = .str i ∧ y = .str j ∧ i.length + j.length ≤ sizeLine ∧ Q (.str (i ++ j)) H) ∨ (rCat x y H Q ∨ rCatA K x y H Q))
theorem op_gAdd {K : PySem.W.Frag} (hK : X.K = K) : OpR X (binaryOp .Add) (gAdd K) := by subst hK; exact op_or op_add (op_or op_add_str (op_or op_cat op_catA))
def CM (i j : Int) : Prop := CMul i j ∨ CMulX i j
def gMul : R2 := fun x y H Q => rI CMul (fun i j => .int (i * j)) x y H Q ∨ (rI CMulX (fun i j => .int (i * j)) x y H Q ∨ rRep x y H Q)
theorem op_gMul : OpR X (binaryOp .Mult) gMul := op_or op_mul (op_or op_mulX op_rep)
def gMulS : R2 := fun x y H Q => ∃ a n, x = .str a ∧ y = .int n ∧ MulOk a n ∧ Q (.str (Txt.mul a n)) H
theorem op_gMulS : OpR X (binaryOp .Mult) gMulS := by
  intro pins s σ H x y u v Q I rx ry h
  obtain ⟨a, n, rfl, rfl, hok, q⟩ := h
  obtain ⟨t, rfl⟩ := rx
  obtain ⟨t', rfl⟩ := ry
  exact SB.mul hok fun t' k => ⟨.str _, H, I.tok _, ⟨_, rfl⟩, q⟩
def gDiv : R2 := fun x y H Q => rI CDivW (fun i j => .int (i / j)) x y H Q
theorem op_gDiv : OpR X (binaryOp .FloorDiv) gDiv := op_fdivW
def gMod : R2 := rI (fun _ j => 0 < j) fun i j => .int (i % j)
theorem op_gMod : OpR X (binaryOp .Mod) gMod := op_mod
def gShl : R2 := rI CShl fun i j => .int (i * 2 ^ j.toNat)
def gPow : R2 := rI CPow fun i j => .int (i ^ j.toNat)
theorem op_gPow : OpR X (binaryOp .Pow) gPow := op_pow
def gShr : R2 := rI (fun _ j => 0 ≤ j) fun i j => .int (i / 2 ^ j.toNat)
def gAnd : R2 := rI0 fun i j => .int (Builtin.bitAnd i j)
def gLt : R2 := rI0 fun i j => .bl (decide (i < j))
theorem op_gLt : OpR X (compareOp .Lt) gLt := op_lt
def gLe : R2 := rI0 fun i j => .bl (decide (i ≤ j))
def gGt : R2 := rI0 fun i j => .bl (decide (j < i))
theorem op_gGt : OpR X (compareOp .Gt) gGt := op_gt
def gGe : R2 := rI0 fun i j => .bl (decide (j ≤ i))
theorem op_gGe : OpR X (compareOp .GtE) gGe := op_ge
def gEq (K : PySem.W.Frag) : R2 := fun x y H Q => rEq x y H Q ∨ rEqD K x y H Q
theorem op_gEq {K : PySem.W.Frag} (hK : X.K = K) (hu : X.A.units + 64 < cLine) : OpR X (compareOp .Eq) (gEq K) := by subst hK; exact op_or op_eq (op_eqD hu)
def gNe (K : PySem.W.Frag) : R2 := fun x y H Q => rNe x y H Q ∨ rNeD K x y H Q
theorem op_gNe {K : PySem.W.Frag} (hK : X.K = K) (hu : X.A.units + 64 < cLine) : OpR X (compareOp .NotEq) (gNe K) := by subst hK; exact op_or op_ne (op_neD hu)
def gLen (K : PySem.W.Frag) : List V → Hp → VK → Prop := fun xs H Q => (∃ p ys, xs = [.ref p] ∧ (SqL K H p ys ∨ SqT K H p ys) ∧ Q (.int ys.length) H) ∨ (∃ z, xs = [.str z] ∧ z.length ≤ sizeLine ∧ Q (.int z.length) H)
theorem call_gLen {K : PySem.W.Frag} (hK : X.K = K) : CallR X (.builtin "len") (gLen K) := by subst hK; exact cr_or call_len_seq call_len_str
theorem call_gIsi {K : PySem.W.Frag} (hK : X.K = K) : CallR X (.builtin "isinstance") (rIsi K) := by subst hK; exact call_isi
theorem ix_g {K : PySem.W.Frag} (hK : X.K = K) : IxR X (rIx K) := by subst hK; exact ix_seq
def gSl (K : PySem.W.Frag) : V → Option Int → Option Int → Hp → VK → Prop := fun x lo hi H Q => rSlL K x lo hi H Q ∨ rSlA K x lo hi H Q
theorem sl_gl {K : PySem.W.Frag} (hK : X.K = K) : SlR X (gSl K) := by subst hK; exact SlR.or sl_list sl_tupA
theorem pi_gl {K : PySem.W.Frag} (hK : X.K = K) {tg l : Expr} {tl : TE} (hl : PE X l tl) : PI X tg l (iList K tl) := by subst hK; exact pi_list hl
theorem pi_gt {K : PySem.W.Frag} (hK : X.K = K) {tg l : Expr} {tl : TE} (hl : PE X l tl) : PI X tg l (iTup K tl) := by subst hK; exact pi_tup hl
theorem op_gInSeq {K : PySem.W.Frag} (hK : X.K = K) : OpR X (compareOp .In) (rIn K false) := by subst hK; exact op_in_seq
def gTup2 (K : PySem.W.Frag) (n : Nat) (t : TGs) : TG := gTup K n t
theorem pg_gt {K : PySem.W.Frag} (hK : X.K = K) {es : List Expr} {k : Nat} {pos : Pos} {t : TGs} {n : Nat} (hc : X.calm = true) (h : PGs X es t) (hl : (assignEach es X.env).length = n := by rfl) (hst : (assignEach es X.env).findIdx? (·.1) = none := by rfl) :
    PG X (.Tuple es k pos) (gTup2 K n t) := by subst hK; exact pg_tup hc h hl hst
theorem pe_gbm {K : PySem.W.Frag} (hK : X.K = K) {o e : Expr} {es : List Expr} {to : TE} {t : TA} {name : Str} {apos cpos : Pos} {T id : String} {r : V → List V → Hp → VK → Prop} (pa : PlainAttrs T) (slot : Slot T name id) (hty : typeOf (.builtin id) = pure (.type "method_descriptor")) (hm : MtR X id r) (ho : PE X o to) (ha : PA X (e :: es) t)
    (hbase : attributeBase o name X.env (eval o X.env) = eval o X.env := by rfl)
    (hfew : ((backTo cpos (starEach (e :: es) X.env)).all (fun x => !x.1) && (backToKw cpos (keywordEach [] X.env)).all (fun x => x.1.isSome)
      && decide ((e :: es).length + ([] : List Keyword).length + (if ([] : List Keyword).isEmpty then 0 else 1) < 30)) = true := by rfl)
    (hline : (apos.endLine == cpos.line) = true := by rfl) (hs : starEach (e :: es) X.env = (false, eval e X.env) :: starEach es X.env := by rfl) (hplain : (backTo cpos (starEach es X.env)).any (·.1) = false := by rfl) :
    PE X (.Call (.Attribute o name apos) (e :: es) [] cpos) (tBM K T r to t) := by subst hK; exact pe_bm pa slot hty hm ho ha hbase hfew hline hs hplain
theorem pe_gbm0 {K : PySem.W.Frag} (hK : X.K = K) {o : Expr} {to : TE} {name : Str} {apos cpos : Pos} {T id : String} {r : V → List V → Hp → VK → Prop} (pa : PlainAttrs T) (slot : Slot T name id) (hty : typeOf (.builtin id) = pure (.type "method_descriptor")) (hm : MtR X id r) (ho : PE X o to)
    (hbase : attributeBase o name X.env (eval o X.env) = eval o X.env := by rfl) (hline : (apos.endLine == cpos.line) = true := by rfl) : PE X (.Call (.Attribute o name apos) [] [] cpos) (tBM0 K T r to) := by subst hK; exact pe_bm0 pa slot hty hm ho hbase hline
def gTpl (K : PySem.W.Frag) : List V → Hp → VK → Prop := (fun xs H Q => ∃ p ys, xs = [.ref p] ∧ ((SqL K H p ys ∧ ∀ l, H l = none → Q (.ref l) (upd H l (.tup ys))) ∨ (SqT K H p ys ∧ Q (.ref p) H)))
def gLst (K : PySem.W.Frag) : List V → Hp → VK → Prop := (fun xs H Q => ∃ p ys, xs = [.ref p] ∧ (SqL K H p ys ∨ SqT K H p ys) ∧ ∀ l, H l = none → Q (.ref l) (upd H l (.lst ys)))
theorem call_gTuple {K : PySem.W.Frag} (hK : X.K = K) : CallR X (.type "tuple") (gTpl K) := by subst hK; exact call_tuple_of
theorem call_gList {K : PySem.W.Frag} (hK : X.K = K) : CallR X (.type "list") (gLst K) := by subst hK; exact call_list_of
def gIAdd : R2 := fun x y H Q => rI0 (fun i j => .int (i + j)) x y H Q ∨ (∃ i j, x = .str i ∧ y = .str j ∧ i.length + j.length ≤ sizeLine ∧ Q (.str (i ++ j)) H)
def gIMul : R2 := fun x y H Q => rI CMul (fun i j => .int (i * j)) x y H Q ∨ rI CMulX (fun i j => .int (i * j)) x y H Q
def gXor : R2 := rI0 fun i j => .int (Builtin.bitXor i j)
def gIntC : List V → Hp → VK → Prop := fun xs H Q => (∃ i, xs = [.int i] ∧ Q (.int i) H) ∨ ∃ k, xs = [.bl k] ∧ Q (.int (if k then 1 else 0)) H
theorem call_gInt : CallR X (.type "int") gIntC := call_int1
def gMax : List V → Hp → VK → Prop := fun xs H Q => ∃ i j, xs = [.int i, .int j] ∧ Q (.int (if j > i then j else i)) H
theorem call_gMax (hc : X.calm = true) : CallR X (.builtin "max") gMax := call_max2 hc
def gMin : List V → Hp → VK → Prop := fun xs H Q => ∃ i j, xs = [.int i, .int j] ∧ Q (.int (if j < i then j else i)) H
theorem call_gMin (hc : X.calm = true) : CallR X (.builtin "min") gMin := call_min2 hc
end
/-! ### a def's promise where nothing is being shown (no repr under way) -/
structure RoomG (k : Nat) (A : Around) : Prop where
  rm : Room k A
  gd : A.guards = some []
  un : A.units + 16 * k + 6000 < cLine
theorem RoomG.mono {j k : Nat} {A : Around} (r : RoomG k A) (h : j ≤ k) : RoomG j A := ⟨r.rm.mono h, r.gd, by have := r.un; omega⟩
theorem RoomG.units {k : Nat} {A : Around} (r : RoomG k A) : A.units + 64 < cLine := r.rm.units
theorem RoomG.big {k : Nat} {A : Around} (r : RoomG k A) : A.units + 5000 < cLine := by have := r.un; omega
theorem RoomG.down {k : Nat} {A : Around} (r : RoomG (k + 1) A) (v : Env) : RoomG k (A.deeper v) := ⟨r.rm.deeper v, r.gd, by have := r.un; show A.units + 3 + 16 * k + 6000 < _; omega⟩
theorem RoomG.in1 {k : Nat} {A : Around} (r : RoomG (k + 1) A) : RoomG k A.in1 := ⟨r.rm.in1, r.gd, by have := r.un; show A.units + 1 + 16 * k + 6000 < _; omega⟩
structure FnG (P : Program) (w : World) (K : PySem.W.Frag) (mg : Str → Option Value) (base : Heap) (CX : CXT) (k : Nat) (f : Addr) (fd : FuncData) (ps : List Str) (sp : Sp) : Prop where
  ln : ∀ vs H Q E, sp vs H Q E → vs.length = ps.length
  go : ∀ (A : Around) (ou : List Env) (z : Shared) (H : Hp) (ar : Args) (us : List Value) (vs : List V) (Q : VK) (E : XK), RoomG k A → Env0 P w K mg base A ou z H → BindsTo z fd ar (ps.zip us) → Vals vs us → sp vs H Q E →
    codeAny (model P w) A (.call (.ref f) ar) (CR CX ou P w H z Q E) z
/-- a call's end is what the caller wants -/
theorem aft {X : Cx} {CX : CXT} {pins : List (Addr × Obj)} {σ : L2.St} {H : Hp} {s : Shared} {Q : VK} {E : XK} (hx : Passes CX X E) (I : Inv X pins σ H s) {r : Result} {z : Shared} (h : CR CX X.stack X.prog X.w H s Q E r z) :
    callEnd (EP X pins σ Q) X.xe r z := by
  cases r with
  | error e => exact hx pins σ H s e z I h
  | ok fl => cases fl with
    | ret u => exact I.after h
    | next => exact h.elim
    | brk => exact h.elim
    | cont => exact h.elim
theorem run_g {X : Cx} {CX : CXT} {k : Nat} {f : Addr} {fd : FuncData} {ps : List Str} {sp : Sp} {E : XK} {pins : List (Addr × Obj)} {σ : L2.St} {H : Hp} {s : Shared} {Q : VK} {us : List Value} {vs : List V}
    (F : FnG X.prog X.w X.K X.mg X.base CX k f fd ps sp) (hr : RoomG k X.A) (hb : Binds X.K fd ps []) (hx : Passes CX X E) (I : Inv X pins σ H s) (r : Vals vs us) (h : sp (vs ++ []) H Q E) : wpAny (model X.prog X.w) X.A (call (.ref f) us) (EP X pins σ Q) X.xe s := by
  have q := r.append (show Vals [] [] from .nil)
  exact wpAny_call (codeAny_mono (F.go X.A X.stack s H ⟨us, []⟩ (us ++ []) (vs ++ []) Q E hr I.env0 (hb s us I.kIn (q.length.symm.trans (F.ln _ _ _ _ h))) q h) fun _ _ y => aft hx I y)
theorem run_gk {X : Cx} {CX : CXT} {k : Nat} {f : Addr} {fd : FuncData} {ps ks : List Str} {sp : Sp} {g : List Value → List Value → List Value} {gV : List V → List V → List V} {E : XK} {pins : List (Addr × Obj)} {σ : L2.St} {H : Hp} {s : Shared} {Q : VK} {us ws : List Value} {vs zs : List V}
    (F : FnG X.prog X.w X.K X.mg X.base CX k f fd ps sp) (hr : RoomG k X.A) (hb : KBinds X.K fd ps ks g gV) (hx : Passes CX X E) (I : Inv X pins σ H s) (r : Vals vs us) (rz : Vals zs ws) (h : sp (gV vs zs) H Q E) :
    wpAny (model X.prog X.w) X.A (call (.ref f) us (ks.zip ws)) (EP X pins σ Q) X.xe s := by
  have q := hb.rel r rz
  exact wpAny_call (codeAny_mono (F.go X.A X.stack s H ⟨us, ks.zip ws⟩ (g us ws) (gV vs zs) Q E hr I.env0 (hb.to s us ws I.kIn (q.length.symm.trans (F.ln _ _ _ _ h))) q h) fun _ _ y => aft hx I y)
theorem fn_g {CX : CXT} {P : Program} {w : World} {K : PySem.W.Frag} {mg : Str → Option Value} {base : Heap} {k : Nat} {f : Addr} {nm qu : Str} {pr : Arguments} {bd : List Stmt} {sc : Scope} {dV kV dc pm cd ct oc : Value} {an od : Option Addr} {sl : Array (Option Value)} {N ps : List Str} {sp : Sp}
    (lk : K.lookup f = some ⟨oc, od, .func (PySem.W.fnOf nm qu pr bd sc dV kV dc pm an cd ct), sl⟩) (hc : PySem.W.codeIn K cd qu = true) (S : FnScope N ps sc) (ln : ∀ vs H Q E, sp vs H Q E → vs.length = ps.length)
    (hb : ∀ (A : Around) (ou : List Env) (z : Shared) (H : Hp) (vs : List V) (Q : VK) (E : XK), RoomG k (A.deeper (envOfC qu sc z.heap.objs.size f cd)) → sp vs H Q E → ∃ t, PSs (cxOf CX P w K mg base N qu sc f cd A ou z H E) bd t ∧ t { nx := fun _ H' => Q .non H', rt := Q } (start N vs) H) :
    FnG P w K mg base CX (k + 1) f (PySem.W.fnOf nm qu pr bd sc dV kV dc pm an cd ct) ps sp := by
  refine ⟨ln, fun A ou z H ar us vs Q E hr e0 bt r hs => ?_⟩
  have hl := ln _ _ _ _ hs
  have old : ∀ b o, base.get? b = some o → z.heap.get? b = some o := fun b o e => (e0.bs b o e).1
  have kz := e0.mod.kin.keeps old
  have lim := e0.mod.nolimit.keeps old
  have hk : ∀ y ∈ ps.zip us, sc.names.lookup y.1 = some .local ∨ (sc.names.lookup y.1 = some .cell ∧ ((cellsFrom (z.heap.objs.size + 1) sc.names []).lookup y.1).isSome = true) := by
    intro y hy
    rcases S.par y.1 (List.of_mem_zip hy).1 with q | q
    · exact .inl q
    · exact .inr ⟨q, PySem.W.cellsFrom_some _ _ _ (.inl q)⟩
  refine codeAny_call_function hr.rm.depth (kz _ _ lk) rfl S.co S.gen rfl (PySem.W.codeRec_of kz hc) (bt _ _ _ _ (wpAny_newFunctionEnv_cells S.kind hk fun v hv z1 x => ?_))
  subst hv
  refine ⟨lim.keeps x.toInCall.keep, codeAny_func ?_⟩
  obtain ⟨t, ht, hq⟩ := hb A ou z H vs Q E (hr.down _) hs
  refine wpAny_mono (ht.run [] z1 (start N vs) H _ (inv_start S hr.rm.hd e0 hl r x) hq) (fun fl z2 y => ?_) fun _ _ y => y
  cases fl with
  | ret u =>
    obtain ⟨v, σ', H', J, rv, q⟩ := y
    exact ⟨v, H', J.os, J.bare, J.base, J.hok, rv, q⟩
  | next =>
    obtain ⟨σ', H', J, q⟩ := y
    exact ⟨V.non, H', J.os, J.bare, J.base, J.hok, rfl, q⟩
  | brk => exact y.elim fun _ y => y.elim fun _ y => y.2.elim
  | cont => exact y.elim fun _ y => y.elim fun _ y => y.2.elim
theorem okG {CX : CXT} {P : Program} {w : World} {K : PySem.W.Frag} {mg : Str → Option Value} {base : Heap} {x qu : Str} {st : Stmt} {f : Addr} {fd : FuncData} {N ps : List Str} {k : Nat} {sp : Sp} (F : Fun K x qu st f fd) (S : FnScope N ps (defScope st)) (ln : ∀ vs H Q E, sp vs H Q E → vs.length = ps.length)
    (hb : ∀ (cd : Value) (A : Around) (ou : List Env) (z : Shared) (H : Hp) (vs : List V) (Q : VK) (E : XK), RoomG k (A.deeper (envOfC qu (defScope st) z.heap.objs.size f cd)) → sp vs H Q E →
      ∃ t, PSs (cxOf CX P w K mg base N qu (defScope st) f cd A ou z H E).nox (defBody st) t ∧ t { nx := fun _ H' => Q .non H', rt := Q } (start N vs) H) : FnG P w K mg base CX (k + 1) f fd ps sp := by
  obtain ⟨oc, od, kV, dc, pm, an, cd, ct, sl, rfl, lk, hc⟩ := F.ex
  refine fn_g lk hc S ln fun A ou z H vs Q E hr hs => ?_
  obtain ⟨t, h, q⟩ := hb cd A ou z H vs Q E hr hs
  exact ⟨t, h.nox, q⟩
/-! ### a def by its name -/
structure Def (P : Program) (w : World) (K : PySem.W.Frag) (mg : Str → Option Value) (base : Heap) (CX : CXT) (name : Str) (k : Nat) (ps : List Str) (sp : Sp) : Prop where
  ex : ∃ f fd, mg name = some (.ref f) ∧ FnG P w K mg base CX k f fd ps sp ∧ PySem.W.keepIn K (.ref f) = true ∧ Binds K fd ps []
section
variable {X : Cx} {CX : CXT} {k : Nat} {ps : List Str} {sp : Sp} {x : Str} {p pos : Pos} {e : Expr} {es : List Expr} {t : TA} {E : XK}
theorem pe_f (G : Def X.prog X.w X.K X.mg X.base CX x k ps sp) (hr : RoomG k X.A) (hg : Gl X x) (hx : Passes CX X E) (ha : PA X (e :: es) t) (hdb : (x == ("__debug__" : Str)) = false := by decide)
    (he : starEach (e :: es) X.env = (false, eval e X.env) :: starEach es X.env := by rfl) (hpl : (backTo pos (starEach es X.env)).any (·.1) = false := by rfl) :
    PE X (.Call (.Name x p) (e :: es) [] pos) (tCall sp [] E t) := by
  obtain ⟨f, fd, m, F, kp, b⟩ := G.ex
  refine ⟨fun pins s σ H Q I h => wpAny_Call_Name_kw (ld_glob I hg m ?_ hdb)⟩
  exact PySem.W.callWith_K (h₀ := X.base) I.ok.mod.kin kp (thn (ha.run pos pins s σ H _ I h) fun us z ⟨vs, G, J, r, q⟩ => ⟨J.kIn, run_g F hr b hx J r q⟩) he hpl
end
/-- a def called by its arguments' names -/
structure DefK (P : Program) (w : World) (K : PySem.W.Frag) (mg : Str → Option Value) (base : Heap) (CX : CXT) (name : Str) (k : Nat) (ps ks : List Str) (gV : List V → List V → List V) (sp : Sp) : Prop where
  ex : ∃ f fd g, mg name = some (.ref f) ∧ FnG P w K mg base CX k f fd ps sp ∧ PySem.W.keepIn K (.ref f) = true ∧ KBinds K fd ps ks g gV
section
variable {X : Cx} {CX : CXT} {k : Nat} {ps ks : List Str} {gV : List V → List V → List V} {sp : Sp} {x : Str} {p pos : Pos} {e : Expr} {es : List Expr} {kws : List Keyword} {t tk : TA} {E : XK}
theorem pe_fK0 (G : DefK X.prog X.w X.K X.mg X.base CX x k ps ks gV sp) (hr : RoomG k X.A) (hg : Gl X x) (hx : Passes CX X E) (hkw : PK X kws tk)
    (hall : (backToKw pos (keywordEach kws X.env)).all (·.1.isSome) = true := by rfl) (hks : (backToKw pos (keywordEach kws X.env)).filterMap (·.1) = ks := by rfl) (hdb : (x == ("__debug__" : Str)) = false := by decide)
    (hpl : ((backTo pos (starEach [] X.env)).any (·.1) || (backToKw pos (keywordEach kws X.env)).any (·.1.isNone)) = false := by rfl) :
    PE X (.Call (.Name x p) [] kws pos) (tCallK sp gV E tNil tk) := by
  obtain ⟨f, fd, g, m, F, kp, b⟩ := G.ex
  refine ⟨fun pins s σ H Q I h => wpAny_Call_Name_kw (ld_glob I hg m (PySem.W.callWith_KW0 (h₀ := X.base) I.ok.mod.kin kp hall ?_ hpl) hdb)⟩
  refine thn (hkw.run pos pins s σ H _ I h) fun ws z ⟨zs, G, J, rz, q⟩ => ⟨J.kIn, ?_⟩
  rw [hks]
  exact run_gk F hr b hx J .nil rz q
end
theorem FnG.no {P : Program} {w : World} {K : PySem.W.Frag} {mg : Str → Option Value} {base : Heap} {CX : CXT} {k : Nat} {f : Addr} {fd : FuncData} {ps : List Str} {sp : Sp} (h : ∀ vs H Q E, sp vs H Q E → False) : FnG P w K mg base CX k f fd ps sp :=
  ⟨fun vs H Q E y => (h vs H Q E y).elim, fun _ _ _ H _ _ vs Q E _ _ _ _ y => (h vs H Q E y).elim⟩
theorem FnG.mono {P : Program} {w : World} {K : PySem.W.Frag} {mg : Str → Option Value} {base : Heap} {CX : CXT} {j k : Nat} {f : Addr} {fd : FuncData} {ps : List Str} {sp : Sp} (F : FnG P w K mg base CX j f fd ps sp) (h : j ≤ k) : FnG P w K mg base CX k f fd ps sp :=
  ⟨F.ln, fun A ou z H ar us vs Q E hr => F.go A ou z H ar us vs Q E (hr.mono h)⟩
/-! ### an own class: made by its name, fields read -/
structure ClsF (K : PySem.W.Frag) (C : Addr) (fs : List Str) : Prop where
  cl : Cls K C
  na : ∀ f ∈ fs, NoAttr K C f
/-- the class by its name -/
structure ClsN (K : PySem.W.Frag) (x : Str) (C : Addr) (fs : List Str) : Prop extends ClsF K C fs where
  nm : PySem.W.nsIn K mainGlobals x = some (some (.ref C))
/-! ### own methods -/
/-! x != y: the contrary of the own == -/
def rNeDD (K : PySem.W.Frag) : R2 := fun x y H Q => ∃ d e, Dp K H x d ∧ Dp K H y e ∧ d.canLay0 = true ∧ e.canLay0 = true ∧ d.depth ≤ 3000 ∧ Q (.bl (!PyData.eqv d e)) H
theorem op_neDD {X : Cx} {K : PySem.W.Frag} (hK : X.K = K) (hu : X.A.units + 5000 < cLine) : OpR X (compareOp .NotEq) (rNeDD K) := by
  subst hK
  intro pins s σ H x y v u Q I rx ry h
  obtain ⟨d, e, hd, he, sd, se, dp, q⟩ := h
  obtain ⟨as, r1⟩ := Dp.reads I d x v hd rx
  obtain ⟨bs, r2⟩ := Dp.reads I e y u he ry
  exact SeqAt.compareNe_reads r1 r2 sd se (by omega) ⟨.bl _, H, I, rfl, q⟩
/-! isinstance of a class of one's own -/
def tKGet (K : PySem.W.Frag) (w : World) (td ty : TE) : TE := fun σ H Q => td σ H fun x H1 => ty σ H1 fun y H2 => ∃ a z v, x = .ref a ∧ y = .str z ∧ (a == sysModules) = false ∧ KDct K w a z v ∧ Q v H2
def tNiK (K : PySem.W.Frag) (w : World) (ty td : TE) : TE := fun σ H Q => ty σ H fun y H1 => td σ H1 fun x H2 => ∃ a z v, x = .ref a ∧ y = .str z ∧ (a == sysModules) = false ∧ KDct K w a z v ∧ Q (.bl false) H2
/-! ### the top: the law is called where nothing is being shown -/
theorem top_core {P : Program} {w : World} {K : PySem.W.Frag} {mg mb : Str → Option Value} {CX : CXT} {k : Nat} {fa a : Addr} {fd : FuncData} {x : Str} {sp : Sp} {z : Shared} {vs : List Value} {ns : List Int} (kz : K.In z.heap) (g1 : z.heap.Ns mainGlobals mg) (g2 : z.heap.Ns builtinsNs mb)
    (g3 : ∀ y : Str, y ≠ "__name__" → mb y = bootBuiltins y) (lim : z.heap.NoLimit) (gn : z.gens = #[]) (ha : z.heap.get? a = some { cls := .type "list", data := .seq vs.toArray }) (hr : RoomG k callerA)
    (F : ∀ base : Heap, K.In base → base.Ns mainGlobals mg → FnG P w K mg base CX k fa fd [x] sp) (hb : ∀ (s : Shared) (u : Value), BindsTo s fd ⟨[u], []⟩ [(x, u)]) (hCX : ∀ H e s', CX [] H z (fun _ _ _ => False) e s' → False)
    (H : Hp) (hO : Only H) (hsp : sp [.ref a] H (fun v _ => v = .bl true) fun _ _ _ => False) (ok : HOk P w H z.heap) (hA : ∀ b, H b ≠ none → b = a) (hK : H a ≠ none → K.lookup a = none) :
    codeAny (model P w) callerA (.call (.ref fa) ⟨[.ref a], []⟩) (fun r s' => r = .ok (.ret (.bool true)) ∧ OldK z.heap s'.heap ∧ s'.os = z.os ∧ AllBare s'.gens) z := by
  have non : ∀ {b : Addr} {o : Obj} {es : Array DictEntry} {ep : Nat}, z.heap.get? b = some o → o.data = .dict es ep → H b = none := by
    intro b o es ep e d
    refine Classical.byContradiction fun q => ?_
    have eb := hA b q
    subst eb
    rw [ha] at e
    cases e
    cases (show Data.seq vs.toArray _ = Data.dict es ep from d)
  have nk : ∀ {b : Addr} {m : Str → Option Value}, z.heap.Ns b m → (hidT z.heap H).Ns b m := by
    rintro b m ⟨o, es, ep, e, d, r⟩
    exact ⟨o, es, ep, hidT_get e (non e d), d, r⟩
  have kb : K.In (hidT z.heap H) := by
    intro b o e
    refine hidT_get (kz b o e) (Classical.byContradiction fun q => ?_)
    have eb := hA b q
    subst eb
    rw [hK q] at e
    cases e
  have hM : Mod K mg (hidT z.heap H) := ⟨kb, nk g1, ⟨mb, nk g2, g3⟩, lim.elim fun mc h => ⟨mc, nk h.1, h.2⟩⟩
  have e0 : Env0 P w K mg (hidT z.heap H) callerA [] z H := ⟨rfl, hM, fun b o e => of_hidT e, Nat.le_of_eq (hidT_size _ _), trivial, (by intro b hb; cases (show b ∈ ([] : List Addr) from hb)), ok, .of_eq gn⟩
  refine codeAny_mono ((F _ kb (nk g1)).go callerA [] z H ⟨[.ref a], []⟩ [.ref a] [.ref a] _ _ hr e0 (hb z (.ref a)) (.cons rfl .nil) hsp) fun r s' h => ?_
  match r, h with
  | .error e, h => exact (hCX H e s' h).elim
  | .ok .next, h => exact h.elim
  | .ok .brk, h => exact h.elim
  | .ok .cont, h => exact h.elim
  | .ok (.ret u), h =>
    obtain ⟨v, G, os, bare, un, ok', rv, q⟩ := h
    have q : v = .bl true := q
    subst q
    obtain rfl : u = Value.bool true := rv
    refine ⟨rfl, OldK.of_keep fun b o e => ?_, os, bare⟩
    rcases hO b with y | ⟨ob, xs, y⟩
    · exact un.keep b o e y (by intro n; cases (show b ∈ ([] : List Addr) from n)) (by simp)
    · obtain ⟨e1, _⟩ := ok b _ y
      obtain ⟨e2, _⟩ := ok' b _ (un.frzs b ob _ y)
      rw [e] at e1
      cases e1
      exact e2
theorem top_run {P : Program} {w : World} {K : PySem.W.Frag} {mg mb : Str → Option Value} {CX : CXT} {k : Nat} {fa a : Addr} {fd : FuncData} {x : Str} {sp : Sp} {z : Shared} {vs : List Value} {ns : List Int} (kz : K.In z.heap) (g1 : z.heap.Ns mainGlobals mg) (g2 : z.heap.Ns builtinsNs mb)
    (g3 : ∀ y : Str, y ≠ "__name__" → mb y = bootBuiltins y) (lim : z.heap.NoLimit) (gn : z.gens = #[]) (ha : z.heap.get? a = some { cls := .type "list", data := .seq vs.toArray }) (hi : IntsAre vs ns) (hl : ns.length ≤ sizeLine) (hr : RoomG k callerA)
    (F : ∀ base : Heap, K.In base → base.Ns mainGlobals mg → FnG P w K mg base CX k fa fd [x] sp) (hb : ∀ (s : Shared) (u : Value), BindsTo s fd ⟨[u], []⟩ [(x, u)]) (hCX : ∀ H e s', CX [] H z (fun _ _ _ => False) e s' → False)
    (hsp : ∀ H : Hp, Only H → SqL K H a (ns.map V.int) → sp [.ref a] H (fun v _ => v = .bl true) fun _ _ _ => False) :
    codeAny (model P w) callerA (.call (.ref fa) ⟨[.ref a], []⟩) (fun r s' => r = .ok (.ret (.bool true)) ∧ OldK z.heap s'.heap ∧ s'.os = z.os ∧ AllBare s'.gens) z := by
  have rv := vals_ints hi
  have le := hi.length
  cases hk : K.lookup a with
  | some o =>
    have e := kz a o hk
    rw [ha] at e
    cases e
    have hO : Only (fun _ => none) := fun _ => .inl rfl
    exact top_core (ns := ns) kz g1 g2 g3 lim gn ha hr F hb hCX _ hO (hsp _ hO (.inr ⟨_, vs.toArray, _, hk, rfl, rfl, rfl, (by rw [List.size_toArray, le]; exact hl), (by simpa using rv)⟩)) (by intro b u y; cases (show (none : Option HO) = some u from y)) (by intro b y; exact absurd rfl y) (by intro y; exact absurd rfl y)
  | none =>
    have h1 : ∀ b u, (if b = a then some (HO.frz { cls := .type "list", data := .seq vs.toArray } (.lst (ns.map V.int))) else none) = some u → b = a ∧ u = HO.frz { cls := .type "list", data := .seq vs.toArray } (.lst (ns.map V.int)) := by
      intro b u y
      by_cases n : b = a
      · rw [if_pos n] at y
        cases y
        exact ⟨n, rfl⟩
      · rw [if_neg n] at y
        cases y
    have hO : Only (fun b => if b = a then some (HO.frz { cls := .type "list", data := .seq vs.toArray } (.lst (ns.map V.int))) else none) := fun b => by
      by_cases n : b = a
      · exact .inr ⟨_, _, if_pos n⟩
      · exact .inl (if_neg n)
    refine top_core (ns := ns) kz g1 g2 g3 lim gn ha hr F hb hCX _ hO (hsp _ hO (.inl (.inr ⟨{ cls := .type "list", data := .seq vs.toArray }, if_pos rfl⟩))) (fun b u y => ?_) (fun b y => ?_) (fun _ => hk)
    · obtain ⟨rfl, rfl⟩ := h1 b u y
      exact ⟨ha, by rw [List.length_map]; exact hl, vs, _, rv, ha⟩
    · by_cases n : b = a
      · exact n
      · exact absurd (if_neg n) y
theorem walk_g {l : PySem.W.OpenLaw} {n k : Nat} {q : Program} {loose : List Str} {XP : (Str → Option Value) → Heap → Prop} {YP : World → Heap → Prop} {d : DefRec} {K : Params → PySem.W.Frag} {CX : World → CXT} {sp : World → Sp} {x : Str}
    (hn : l.most = some n) (hn2 : n ≤ sizeLine) (hdf : d.params.defaults = []) (hr : RoomG k callerA) (hY : ∀ (w : World) (h : Heap), YP w h → (K w.params).In h)
    (F : ∀ (w : World) (mg : Str → Option Value) (fa : Addr) (h : Heap), (K w.params).In h → h.Ns mainGlobals mg → mg d.name = some (.ref fa) → ∃ fd : FuncData, (∀ (s : Shared) (u : Value), BindsTo s fd ⟨[u], []⟩ [(x, u)]) ∧
        ∀ base : Heap, (K w.params).In base → base.Ns mainGlobals mg → FnG l.prog w (K w.params) mg base (CX w) k fa fd [x] (sp w))
    (hsp : ∀ (w : World) (H : Hp) (a : Addr) (ns : List Int), ns.length ≤ n → Only H → SqL (K w.params) H a (ns.map V.int) → sp w [.ref a] H (fun v _ => v = .bl true) fun _ _ _ => False)
    (hCX : ∀ (w : World) (H : Hp) (s : Shared) (e : Value) (s' : Shared), CX w [] H s (fun _ _ _ => False) e s' → False) :
    PySem.W.WalkO q loose XP YP l.row.toRowW d [] (fun f vs => PySem.call f vs) := by
  refine Att.attach_call hn hdf fun w s0 z mg mb fa o pm cd dc a vs ns G Y ho hd hcd hmg hobj hi hl hg => ?_
  have kz := hY w _ Y
  obtain ⟨fd, hb, hF⟩ := F w mg fa _ kz G.T.g hmg
  exact top_run kz G.T.g G.T.b G.T.builtins G.T.nolimit hg hobj hi (Nat.le_trans hl hn2) hr hF hb (fun H e s' => hCX w H z e s') fun H hO hS => hsp w H a ns hl hO hS
/-! ### heaps -/
theorem sm_new {H : Hp} {p : Addr} {o : HO} (h : H p = none) : Sm H (upd H p o) := fun b x e => by
  rw [upd_ne (ne_of_none e h)]
  exact e
/-- all but b as it was -/
def Kp (b : Addr) (H H' : Hp) : Prop := ∀ a o, a ≠ b → H a = some o → H' a = some o
theorem Kp.refl {b : Addr} (H : Hp) : Kp b H H := fun _ _ _ h => h
theorem Kp.trans {b : Addr} {H H1 H2 : Hp} (x : Kp b H H1) (y : Kp b H1 H2) : Kp b H H2 := fun a o n h => y a o n (x a o n h)
theorem Kp.of {b : Addr} {H H1 : Hp} (x : Sm H H1) : Kp b H H1 := fun a o _ h => x a o h
theorem kp_upd {b : Addr} {H : Hp} {o : HO} : Kp b H (upd H b o) := fun a x n h => by rw [upd_ne n]; exact h
theorem ne_new {H : Hp} {p b : Addr} {o : HO} (hp : H p = none) (hb : H b = some o) : p ≠ b := fun e => by rw [e, hb] at hp; cases hp
theorem Same.get {H H' : Hp} {a : Addr} {o : HO} (h : Sm H H') (k : H a = some o) : H' a = some o := h a o k
theorem Kp.get {b : Addr} {H H' : Hp} {a : Addr} {o : HO} (h : Kp b H H') (n : a ≠ b) (k : H a = some o) : H' a = some o := h a o n k
theorem ne_new2 {H : Hp} {p b : Addr} {o : HO} (hp : H p = none) (hb : H b = some o) : b ≠ p := fun e => by rw [← e, hb] at hp; cases hp
theorem sm_mut {H H1 H2 : Hp} {p : Addr} (s : Sm H H1) (n : H p = none) (k : Kp p H1 H2) : Sm H H2 := fun a o h => k a o (ne_of_none h n) (s a o h)
theorem kp_mut {b : Addr} {H H1 H2 : Hp} {p : Addr} (s : Kp b H H1) (n : H p = none) (k : Kp p H1 H2) : Kp b H H2 := fun a o m h => k a o (ne_of_none h n) (s a o m h)
theorem kp_free {b : Addr} {H H1 : Hp} {p : Addr} (s : Kp b H H1) (m : p ≠ b) (n : H1 p = none) : H p = none := by
  cases e : H p with
  | none => rfl
  | some o => rw [s p o m e] at n; cases n
/-- a list that no one stores into: the script's -/
def SqF (K : PySem.W.Frag) (H : Hp) (a : Addr) (xs : List V) : Prop := (∃ o, H a = some (.frz o (.lst xs))) ∨
  ∃ (o : Obj) (its : Array Value) (n : Nat), K.lookup a = some o ∧ o.cls = .type "list" ∧ o.dict = none ∧ o.data = .seq its n ∧ its.size ≤ sizeLine ∧ Vals xs its.toList
theorem SqF.sq {K : PySem.W.Frag} {H : Hp} {a : Addr} {xs : List V} (h : SqF K H a xs) : SqL K H a xs := by
  rcases h with h | h
  · exact .inl (.inr h)
  · exact .inr h
theorem SqF.sm {K : PySem.W.Frag} {H H' : Hp} {a : Addr} {xs : List V} (h : SqF K H a xs) (e : Sm H H') : SqF K H' a xs := by
  rcases h with ⟨o, h⟩ | h
  · exact .inl ⟨o, e _ _ h⟩
  · exact .inr h
theorem SqF.kp {K : PySem.W.Frag} {H H' : Hp} {a b : Addr} {xs ys : List V} (h : SqF K H a xs) (hb : H b = some (.lst ys)) (e : Kp b H H') : SqF K H' a xs := by
  rcases h with ⟨o, h⟩ | h
  · exact .inl ⟨o, e _ _ (ne_of h hb (by intro z; cases z)) h⟩
  · exact .inr h
theorem SqF.of {K : PySem.W.Frag} {H : Hp} {a : Addr} {xs : List V} (hO : Only H) (h : SqL K H a xs) : SqF K H a xs := by
  rcases h with (h | h) | h
  · rcases hO a with e | ⟨o, ys, e⟩
    · rw [e] at h; cases h
    · rw [e] at h; cases h
  · exact .inl h
  · exact .inr h
theorem g_sqf {K : PySem.W.Frag} {H H0 : Hp} {a : Addr} {xs ys : List V} (_ : SqF K H0 a ys) (h : SqF K H a xs) : SqF K H a xs := h
theorem g_lk {H H0 : Hp} {a : Addr} {o o' : HO} (_ : H0 a = some o') (h : H a = some o) : H a = some o := h
theorem g_fr {H H0 : Hp} {a : Addr} (_ : H0 a = none) (h : H a = none) : H a = none := h
/-- a list of tuples of values as told -/
def AllT (P : List V → Prop) (xs : List V) (H : Hp) : Prop := ∀ x ∈ xs, ∃ t vs, x = .ref t ∧ H t = some (.tup vs) ∧ P vs
theorem AllT.nil {P : List V → Prop} {H : Hp} : AllT P [] H := fun _ h => by cases h
theorem AllT.sm {P : List V → Prop} {xs : List V} {H H' : Hp} (h : AllT P xs H) (e : Sm H H') : AllT P xs H' := fun x hx => by
  obtain ⟨t, vs, a, b, c⟩ := h x hx
  exact ⟨t, vs, a, e _ _ b, c⟩
theorem AllT.kp {P : List V → Prop} {xs ys : List V} {H H' : Hp} {b : Addr} (h : AllT P xs H) (hb : H b = some (.lst ys)) (e : Kp b H H') : AllT P xs H' := fun x hx => by
  obtain ⟨t, vs, a, k, c⟩ := h x hx
  exact ⟨t, vs, a, e _ _ (ne_of k hb (by intro z; cases z)) k, c⟩
theorem AllT.add {P : List V → Prop} {xs vs : List V} {H : Hp} {t : Addr} (h : AllT P xs H) (k : H t = some (.tup vs)) (p : P vs) : AllT P (xs ++ [.ref t]) H := fun x hx => by
  rcases List.mem_append.mp hx with hx | hx
  · exact h x hx
  · cases hx with
    | head => exact ⟨t, vs, rfl, k, p⟩
    | tail _ z => cases z
theorem AllT.app {P : List V → Prop} {xs ys : List V} {H : Hp} (h : AllT P xs H) (k : AllT P ys H) : AllT P (xs ++ ys) H := fun x hx => (List.mem_append.mp hx).elim (h x) (k x)
theorem AllT.cut {P : List V → Prop} {xs : List V} {lo hi : Option Int} {H : Hp} (h : AllT P xs H) : AllT P (cutV xs lo hi) H := fun x hx => h x (List.mem_of_mem_drop (List.mem_of_mem_take hx))
theorem sq_of {K : PySem.W.Frag} {H : Hp} {a : Addr} {xs : List V} (h : H a = some (.lst xs)) : SqL K H a xs := Or.inl (Or.inl h)
theorem st_of {K : PySem.W.Frag} {H : Hp} {a : Addr} {xs : List V} (h : H a = some (.tup xs)) : SqT K H a xs := Or.inl (Or.inl h)
theorem kp_sq {K : PySem.W.Frag} {b : Addr} {H H' : Hp} {a : Addr} {xs : List V} (e : Kp b H H') (n : a ≠ b) (h : SqL K H a xs) : SqL K H' a xs := by
  rcases h with (h | ⟨o, h⟩) | h
  · exact .inl (.inl (e _ _ n h))
  · exact .inl (.inr ⟨o, e _ _ n h⟩)
  · exact .inr h
theorem sm_sq {K : PySem.W.Frag} {H H' : Hp} {a : Addr} {xs : List V} (e : Sm H H') (h : SqL K H a xs) : SqL K H' a xs := e.seq h
theorem sz_of {n : Nat} (h : n ≤ 100000) : n ≤ sizeLine := Nat.le_trans h (by decide)
theorem sz_lt {n : Nat} (h : n < 100000) : n < sizeLine := Nat.lt_of_lt_of_le h (by decide)
/-! ### what follows, by names of our own -/
def NX (D : Ends) : L2.St → Hp → Prop := D.nx
def RT (D : Ends) : VK := D.rt
def IsBl (x : V) (R : Bool → Prop) : Prop := ∃ k, x = .bl k ∧ R k
def SpC (sp : Sp) (vs : List V) (H : Hp) (Q : VK) (E : XK) : Prop := sp (vs ++ []) H Q E
def PartE (R : Option Int → Hp → Prop) (x : V) (H : Hp) : Prop := ∃ i, x = .int i ∧ R (some i) H
def BmE (K : PySem.W.Frag) (T : String) (x : V) (H : Hp) (R : Prop) : Prop := tyV K T x H ∧ R
def En (n : L2.St → Hp → Prop) (r : VK) (b c : L2.St → Hp → Prop) : Ends := { nx := n, rt := r, bk := b, ct := c }
/-! ### loops -/
def Rg1 (R : It → Hp → Prop) (vs : List V) (H : Hp) : Prop := ∃ j : Int, vs = [.int j] ∧ -(2 ^ 62) ≤ j ∧ j < 2 ^ 62 ∧ R (Itr 0 j.toNat) H
def Rg2 (R : It → Hp → Prop) (vs : List V) (H : Hp) : Prop := ∃ i j : Int, vs = [.int i, .int j] ∧ (-(2 ^ 62) ≤ i ∧ i < 2 ^ 62 ∧ -(2 ^ 62) ≤ j ∧ j < 2 ^ 62) ∧ R (Itr i (j - i).toNat) H
def LsE (K : PySem.W.Frag) (R : It → Hp → Prop) (x : V) (H : Hp) : Prop := ∃ a, x = .ref a ∧ (∃ xs, SqL K H a xs) ∧ R (Itl K a) H
def TpE (K : PySem.W.Frag) (R : It → Hp → Prop) (x : V) (H : Hp) : Prop := ∃ a, x = .ref a ∧ (∃ xs, SqT K H a xs) ∧ R (Itt K a) H
def Loop (J : It) (g : TG) (tb : TS) : TS := fun D σ H => ∃ W : Nat → Nat → L2.St → Hp → Prop, (∃ m, W 0 m σ H) ∧ ∀ i m σ H, W i m σ H →
  (J.stop i H ∧ D.nx σ H) ∨ (J.go i H ∧ ∃ N : L2.St → Hp → Prop, (∀ σ' H', N σ' H' → ∃ m', m' < m ∧ W (i + 1) m' σ' H') ∧ ∀ x H', J.yld i H x H' → g x σ H' fun σ2 H2 => tb { D with nx := N, ct := N, bk := D.nx } σ2 H2)
section
variable {σ : L2.St} {H : Hp} {D : Ends} {K : PySem.W.Frag} {g : TG} {tb : TS} {ta : TA} {te : TE} {c : TT}
theorem w_for {wi : TI} (k : wi σ H fun J H1 => Loop J g tb D σ H1) : tFor wi g tb D σ H := k
theorem w_iR1 {R : It → Hp → Prop} (k : ta σ H fun vs H1 => Rg1 R vs H1) : iRng1 ta σ H R := k
theorem w_iR1e {n : Int} {R : It → Hp → Prop} (h1 : -(2 ^ 62) ≤ n) (h2 : n < 2 ^ 62) (k : R (Itr 0 n.toNat) H) : Rg1 R [V.int n] H := ⟨n, rfl, h1, h2, k⟩
theorem w_iR2 {R : It → Hp → Prop} (k : ta σ H fun vs H1 => Rg2 R vs H1) : iRng2 ta σ H R := k
theorem w_iR2e {m n : Int} {R : It → Hp → Prop} (h : -(2 ^ 62) ≤ m ∧ m < 2 ^ 62 ∧ -(2 ^ 62) ≤ n ∧ n < 2 ^ 62) (k : R (Itr m (n - m).toNat) H) : Rg2 R [V.int m, V.int n] H := ⟨m, n, rfl, h, k⟩
theorem w_iL {R : It → Hp → Prop} (k : te σ H fun x H1 => LsE K R x H1) : iList K te σ H R := k
theorem w_iLe {a : Addr} {xs : List V} {R : It → Hp → Prop} (h : SqL K H a xs) (k : R (Itl K a) H) : LsE K R (.ref a) H := ⟨a, rfl, ⟨xs, h⟩, k⟩
theorem w_iT {R : It → Hp → Prop} (k : te σ H fun x H1 => TpE K R x H1) : iTup K te σ H R := k
theorem w_iTe {a : Addr} {xs : List V} {R : It → Hp → Prop} (h : SqT K H a xs) (k : R (Itt K a) H) : TpE K R (.ref a) H := ⟨a, rfl, ⟨xs, h⟩, k⟩
theorem loopR {lo : Int} {n : Nat} (Pv : Nat → L2.St → Hp → Prop) (h0 : Pv 0 σ H) (hs : ∀ i σ H, i < n → Pv i σ H → g (.int (lo + i)) σ H fun σ2 H2 => tb (En (Pv (i + 1)) (RT D) (NX D) (Pv (i + 1))) σ2 H2)
    (hd : ∀ σ H, Pv n σ H → NX D σ H) : Loop (Itr lo n) g tb D σ H := for_range Pv h0 hs hd
theorem loopL {a : Addr} {xs : List V} (Pv : Nat → L2.St → Hp → Prop) (h0 : Pv 0 σ H) (hl : ∀ i σ H, i ≤ xs.length → Pv i σ H → SqL K H a xs)
    (hs : ∀ i x σ H, xs[i]? = some x → Pv i σ H → g x σ H fun σ2 H2 => tb (En (Pv (i + 1)) (RT D) (NX D) (Pv (i + 1))) σ2 H2) (hd : ∀ σ H, Pv xs.length σ H → NX D σ H) : Loop (Itl K a) g tb D σ H := for_list Pv h0 hl hs hd
theorem loopT {a : Addr} {xs : List V} (Pv : Nat → L2.St → Hp → Prop) (h0 : Pv 0 σ H) (hl : ∀ i σ H, i ≤ xs.length → Pv i σ H → SqT K H a xs)
    (hs : ∀ i x σ H, xs[i]? = some x → Pv i σ H → g x σ H fun σ2 H2 => tb (En (Pv (i + 1)) (RT D) (NX D) (Pv (i + 1))) σ2 H2) (hd : ∀ σ H, Pv xs.length σ H → NX D σ H) : Loop (Itt K a) g tb D σ H := for_tup Pv h0 hl hs hd
def WT (Pv : Nat → L2.St → Hp → Prop) (m : Nat) (tb : TS) (D : Ends) (σ : L2.St) (H : Hp) : Prop := ∃ N : L2.St → Hp → Prop, (∀ σ' H', N σ' H' → ∃ m', m' < m ∧ Pv m' σ' H') ∧ tb { D with nx := N, ct := N, bk := D.nx } σ H
def WN (Pv : Nat → L2.St → Hp → Prop) (m : Nat) : L2.St → Hp → Prop := fun σ2 H2 => ∃ m', m' < m ∧ Pv m' σ2 H2
theorem w_wt {Pv : Nat → L2.St → Hp → Prop} {m : Nat} (k : tb (En (WN Pv m) (RT D) (NX D) (WN Pv m)) σ H) : WT Pv m tb D σ H := ⟨_, fun _ _ z => z, k⟩
theorem w_while (Pv : Nat → L2.St → Hp → Prop) (m0 : Nat) (h0 : Pv m0 σ H)
    (hs : ∀ m σ' H', Pv m σ' H' → c σ' H' fun b H1 => if b = true then WT Pv m tb D σ' H1 else NX D σ' H1) : tWhile c tb D σ H := ⟨Pv, ⟨m0, h0⟩, hs⟩
end
/-! ### list comprehensions -/
def LcL (J : It) (g : TG) (tt : TT) (te : TE) (vs : List Nat) (σ : L2.St) (H1 : Hp) (Q : VK) : Prop := ∀ D, H1 D = none → ∃ W : Nat → Nat → Hp → Prop, (∃ m, W 0 m (upd H1 D (.lst []))) ∧ ∀ i m H, W i m H →
  (J.stop i H ∧ Q (.ref D) H) ∨ (J.go i H ∧ ∃ Nx : Hp → Prop, (∀ H', Nx H' → ∃ m', m' < m ∧ W (i + 1) m' H') ∧ ∀ x H', J.yld i H x H' → g x (wipe σ vs) H' fun σ2 H2 => wipe σ2 vs = wipe σ vs ∧ tt σ2 H2 fun b H3 =>
    if b = true then te σ2 H3 fun y H4 => ∃ acc, H4 D = some (.lst acc) ∧ acc.length < sizeLine ∧ Nx (upd H4 D (.lst (acc ++ [y]))) else Nx H3)
def LcEnd (D : Addr) (y : V) (R : Hp → Prop) (H : Hp) : Prop := ∃ acc, H D = some (.lst acc) ∧ acc.length < sizeLine ∧ R (upd H D (.lst (acc ++ [y])))
def LcGo (vs : List Nat) (σ σ2 : L2.St) (R : Prop) : Prop := wipe σ2 vs = wipe σ vs ∧ R
section
variable {σ : L2.St} {H : Hp} {Q : VK} {g : TG} {tt : TT} {te : TE} {vs : List Nat} {K : PySem.W.Frag}
theorem w_lc {wi : TI} (k : wi σ H fun J H1 => LcL J g tt te vs σ H1 Q) : tLc wi g tt te vs σ H Q := k
theorem w_lcEnd {D : Addr} {y : V} {acc : List V} {R : Hp → Prop} (h : H D = some (.lst acc)) (z : acc.length < sizeLine) (k : ∀ H', Kp D H H' → H' D = some (.lst (acc ++ [y])) → R H') : LcEnd D y R H := ⟨acc, h, z, k _ kp_upd upd_same⟩
theorem w_lcGo {σ2 : L2.St} {R : Prop} (e : wipe σ2 vs = wipe σ vs) (k : R) : LcGo vs σ σ2 R := ⟨e, k⟩
theorem w_yes {QT : Bool → Hp → Prop} (k : QT true H) : tYes σ H QT := k
theorem lcR {lo : Int} {n : Nat} (Pv : Addr → Nat → Hp → Prop) (h0 : ∀ D H', H D = none → Sm H H' → H' D = some (.lst []) → Pv D 0 H')
    (hs : ∀ D i H', H D = none → i < n → Pv D i H' → g (.int (lo + i)) (wipe σ vs) H' fun σ2 H2 => LcGo vs σ σ2 (tt σ2 H2 fun b H3 => if b = true then te σ2 H3 fun y H4 => LcEnd D y (Pv D (i + 1)) H4 else Pv D (i + 1) H3))
    (hd : ∀ D H', H D = none → Pv D n H' → Q (.ref D) H') : LcL (Itr lo n) g tt te vs σ H Q := fun D hD =>
  lc_range (Pv D) (h0 D _ hD (sm_new hD) upd_same) (fun i H' hi p => hs D i H' hD hi p) (fun H' p => hd D H' hD p)
theorem lcLs {a : Addr} {xs : List V} (Pv : Addr → Nat → Hp → Prop) (h0 : ∀ D H', H D = none → Sm H H' → H' D = some (.lst []) → Pv D 0 H') (hl : ∀ D i H', H D = none → i ≤ xs.length → Pv D i H' → SqL K H' a xs)
    (hs : ∀ D i x H', H D = none → xs[i]? = some x → Pv D i H' → g x (wipe σ vs) H' fun σ2 H2 => LcGo vs σ σ2 (tt σ2 H2 fun b H3 => if b = true then te σ2 H3 fun y H4 => LcEnd D y (Pv D (i + 1)) H4 else Pv D (i + 1) H3))
    (hd : ∀ D H', H D = none → Pv D xs.length H' → Q (.ref D) H') : LcL (Itl K a) g tt te vs σ H Q := fun D hD =>
  lc_list (xs := xs) (Pv D) (h0 D _ hD (sm_new hD) upd_same) (fun i H' hi p => hl D i H' hD hi p) (fun i x H' hi p => hs D i x H' hD hi p) (fun H' p => hd D H' hD p)
end
/-! ### keywords -/
/-! ### steps -/
section
variable {σ : L2.St} {H : Hp} {Q : VK} {QT : Bool → Hp → Prop} {QA : List V → Hp → Prop} {D : Ends} {K : PySem.W.Frag} {te ta tb : TE} {tt tu : TT} {t1 t2 : TS} {v x y : V} {i j : Int} {b : Bool}
theorem w_var {n : Nat} (h : σ[n]? = some (some v)) (k : Q v H) : tVar n σ H Q := ⟨v, h, k⟩
theorem w_c (k : Q v H) : tC v σ H Q := k
theorem w_op {r : R2} (k : ta σ H fun x H1 => tb σ H1 fun y H2 => r x y H2 Q) : tOp r ta tb σ H Q := k
theorem w_un {r : V → Hp → VK → Prop} (k : ta σ H fun x H1 => r x H1 Q) : tUn r ta σ H Q := k
theorem w_rU {g : Int → V} (k : Q (g i) H) : rU g (.int i) H Q := ⟨i, rfl, k⟩
theorem inV_S2 {s a c : Str} : inV (.str s) [.str a, .str c] = decide (s = a ∨ s = c) := by
  show ((a == s) || ((c == s) || false)) = _
  rw [Bool.or_false]
  by_cases h1 : s = a
  · subst h1; simp
  · by_cases h2 : s = c
    · subst h2; simp
    · have e1 : (a == s) = false := by simpa using fun e : a = s => h1 e.symm
      have e2 : (c == s) = false := by simpa using fun e : c = s => h2 e.symm
      rw [e1, e2, decide_eq_false (by rintro (h | h); exact h1 h; exact h2 h)]
      rfl
theorem w_inS2 {p : Addr} {s a c : Str} (h : SqT K H p [.str a, .str c]) (k : Q (.bl (decide (s = a ∨ s = c))) H) : rIn K false (.str s) (.ref p) H Q := ⟨p, _, rfl, .inr h, rfl, rfl, by rw [inV_S2]; exact k⟩
theorem w_niS2 {p : Addr} {s a c : Str} (h : SqT K H p [.str a, .str c]) (k : Q (.bl (!decide (s = a ∨ s = c))) H) : rIn K true (.str s) (.ref p) H Q := ⟨p, _, rfl, .inr h, rfl, rfl, by rw [inV_S2]; exact k⟩
theorem w_cb {r : List V → Hp → VK → Prop} {t : TA} (k : t σ H fun vs H1 => r vs H1 Q) : tCB r t σ H Q := k
theorem w_nil (k : QA [] H) : tNil σ H QA := k
theorem w_cons {tr : TA} (k : ta σ H fun x H1 => tr σ H1 fun xs H2 => QA (x :: xs) H2) : tCons ta tr σ H QA := k
def NewL (xs : List V) (H : Hp) (Q : VK) : Prop := xs.length ≤ sizeLine ∧ ∀ p, H p = none → Q (.ref p) (upd H p (.lst xs))
def NewT (xs : List V) (H : Hp) (Q : VK) : Prop := xs.length ≤ sizeLine ∧ ∀ p, H p = none → Q (.ref p) (upd H p (.tup xs))
theorem w_lst {t : TA} (k : t σ H fun xs H1 => NewL xs H1 Q) : tLst t σ H Q := k
theorem w_tup {t : TA} (k : t σ H fun xs H1 => NewT xs H1 Q) : tTup t σ H Q := k
theorem w_newL {xs : List V} (z : xs.length ≤ sizeLine) (k : ∀ p H', H p = none → Sm H H' → H' p = some (.lst xs) → Q (.ref p) H') : NewL xs H Q := ⟨z, fun p hp => k p _ hp (sm_new hp) upd_same⟩
theorem w_newT {xs : List V} (z : xs.length ≤ sizeLine) (k : ∀ p H', H p = none → Sm H H' → H' p = some (.tup xs) → Q (.ref p) H') : NewT xs H Q := ⟨z, fun p hp => k p _ hp (sm_new hp) upd_same⟩
theorem w_call {sp : Sp} {E : XK} {t : TA} (k : t σ H fun vs H1 => SpC sp vs H1 Q E) : tCall sp [] E t σ H Q := k
theorem w_sp {sp : Sp} {E : XK} {vs : List V} (k : sp vs H Q E) : SpC sp vs H Q E := by unfold SpC; rw [List.append_nil]; exact k
theorem w_callK {sp : Sp} {gV : List V → List V → List V} {E : XK} {t tk : TA} (k : t σ H fun vs H1 => tk σ H1 fun zs H2 => sp (gV vs zs) H2 Q E) : tCallK sp gV E t tk σ H Q := k
/-! values of operations -/
theorem w_ixL' {p : Addr} {xs : List V} (h : SqL K H p xs) (a : atI xs i = some v) (k : Q v H) : rIx K (.ref p) (.int i) H Q := .inl ⟨p, xs, i, v, rfl, rfl, h, a, k⟩
theorem w_addI (k : Q (.int (i + j)) H) : gAdd K (.int i) (.int j) H Q := .inl ⟨i, j, rfl, rfl, k⟩
theorem w_addS {a b : Str} (z : a.length + b.length ≤ sizeLine) (k : Q (.str (a ++ b)) H) : gAdd K (.str a) (.str b) H Q := .inr (.inl ⟨a, b, rfl, rfl, z, k⟩)
theorem w_addL {l m : Addr} {xs ys : List V} (h1 : H l = some (.lst xs)) (h2 : H m = some (.lst ys)) (z : xs.length + ys.length ≤ sizeLine) (k : ∀ p H', H p = none → Sm H H' → H' p = some (.lst (xs ++ ys)) → Q (.ref p) H') :
    gAdd K (.ref l) (.ref m) H Q := .inr (.inr (.inl ⟨l, m, xs, ys, rfl, rfl, h1, h2, z, fun p hp => k p _ hp (sm_new hp) upd_same⟩))
theorem w_I0 {g : Int → Int → V} (k : Q (g i j) H) : rI0 g (.int i) (.int j) H Q := ⟨i, j, rfl, rfl, k⟩
theorem w_mulI (c : CM i j) (k : Q (.int (i * j)) H) : gMul (.int i) (.int j) H Q := by
  rcases c with c | c
  · exact .inl ⟨i, j, rfl, rfl, c, k⟩
  · exact .inr (.inl ⟨i, j, rfl, rfl, c, k⟩)
theorem w_divI (c : CDivW i j) (k : Q (.int (i / j)) H) : gDiv (.int i) (.int j) H Q := ⟨i, j, rfl, rfl, c, k⟩
theorem w_modI (c : 0 < j) (k : Q (.int (i % j)) H) : gMod (.int i) (.int j) H Q := ⟨i, j, rfl, rfl, c, k⟩
theorem w_modF (c : 0 < j) (k : ∀ z : Int, z = i % j → 0 ≤ z → z < j → (0 ≤ i → z ≤ i) → Q (.int z) H) : gMod (.int i) (.int j) H Q :=
  w_modI c (k _ rfl (Int.emod_nonneg _ (Int.ne_of_gt c)) (Int.emod_lt_of_pos _ c) fun h => by
    by_cases h2 : i < j
    · rw [Int.emod_eq_of_lt h h2]; exact Int.le_refl _
    · have := Int.emod_lt_of_pos i c
      omega)
theorem w_shlI (c : CShl i j) (k : Q (.int (i * 2 ^ j.toNat)) H) : gShl (.int i) (.int j) H Q := ⟨i, j, rfl, rfl, c, k⟩
theorem w_powI (c : CPow i j) (k : Q (.int (i ^ j.toNat)) H) : gPow (.int i) (.int j) H Q := ⟨i, j, rfl, rfl, c, k⟩
theorem w_shr1 (k : Q (.int (i / 2)) H) : gShr (.int i) (.int 1) H Q := ⟨i, 1, rfl, rfl, (show (0 : Int) ≤ 1 by decide), (show Q (.int (i / 2 ^ Int.toNat 1)) H from k)⟩
theorem w_iaddI (k : Q (.int (i + j)) H) : gIAdd (.int i) (.int j) H Q := .inl ⟨i, j, rfl, rfl, k⟩
theorem w_imulI (c : CM i j) (k : Q (.int (i * j)) H) : gIMul (.int i) (.int j) H Q := by
  rcases c with c | c
  · exact .inl ⟨i, j, rfl, rfl, c, k⟩
  · exact .inr ⟨i, j, rfl, rfl, c, k⟩
theorem w_xorI (k : Q (.int (Builtin.bitXor i j)) H) : gXor (.int i) (.int j) H Q := ⟨i, j, rfl, rfl, k⟩
theorem w_isiIb (k : Q (.bl false) H) : rIsi K [.int i, .ty "bool"] H Q := ⟨_, _, _, _, _, rfl, .ty _, .base (.int _), kit_ty (by decide +kernel), k⟩
theorem w_isiIi (k : Q (.bl true) H) : rIsi K [.int i, .ty "int"] H Q := ⟨_, _, _, _, _, rfl, .ty _, .base (.int _), kit_ty (by decide +kernel), k⟩
theorem w_isiBb (k : Q (.bl true) H) : rIsi K [.bl b, .ty "bool"] H Q := ⟨_, _, _, _, _, rfl, .ty _, .base (.bl _), kit_ty (by decide +kernel), k⟩
theorem w_isiSs {s : Str} (k : Q (.bl true) H) : rIsi K [.str s, .ty "str"] H Q := ⟨_, _, _, _, _, rfl, .ty _, .base (.str _), kit_ty (by decide +kernel), k⟩
theorem w_isiTup {a : Addr} {xs : List V} (h : H a = some (.tup xs)) (k : Q (.bl true) H) : rIsi K [.ref a, .ty "tuple"] H Q := ⟨_, _, _, _, _, rfl, .ty _, .base (.tup h), kit_ty (by decide +kernel), k⟩
theorem w_ixInts {p : Addr} {ns : List Int} (h : SqL K H p (ns.map V.int)) (h0 : 0 ≤ i) (h1 : i < ((ns.map V.int).length : Int)) (k : ∀ n : Int, n ∈ ns → Q (.int n) H) : rIx K (.ref p) (.int i) H Q := by
  obtain ⟨j, rfl⟩ := Int.eq_ofNat_of_zero_le h0
  have h2 : j < ns.length := by rw [List.length_map] at h1; omega
  exact w_ixL' h (atI_nat (by rw [List.getElem?_map, List.getElem?_eq_getElem h2]; rfl)) (k _ (List.getElem_mem h2))
theorem w_ix2I {p : Addr} {x y : Int} (h : SqL K H p [.int x, .int y]) (h0 : 0 ≤ i) (h1 : i < 2) (k : ∀ z : Int, i = 0 ∧ z = x ∨ i = 1 ∧ z = y → Q (.int z) H) : rIx K (.ref p) (.int i) H Q := by
  rcases (show i = 0 ∨ i = 1 by omega) with rfl | rfl
  · exact w_ixL' h (atI_nat (j := 0) rfl) (k _ (.inl ⟨rfl, rfl⟩))
  · exact w_ixL' h (atI_nat (j := 1) rfl) (k _ (.inr ⟨rfl, rfl⟩))
theorem w_ix3I {p : Addr} {x0 x1 x2 : Int} (h : SqL K H p [.int x0, .int x1, .int x2]) (h0 : 0 ≤ i) (h1 : i < 3) (k : ∀ z : Int, z = x0 ∨ z = x1 ∨ z = x2 → Q (.int z) H) : rIx K (.ref p) (.int i) H Q := by
  rcases (show i = 0 ∨ i = 1 ∨ i = 2 by omega) with rfl | rfl | rfl
  · exact w_ixL' h (atI_nat (j := 0) rfl) (k _ (by omega))
  · exact w_ixL' h (atI_nat (j := 1) rfl) (k _ (by omega))
  · exact w_ixL' h (atI_nat (j := 2) rfl) (k _ (by omega))
theorem w_ix4I {p : Addr} {x0 x1 x2 x3 : Int} (h : SqL K H p [.int x0, .int x1, .int x2, .int x3]) (h0 : 0 ≤ i) (h1 : i < 4) (k : ∀ z : Int, z = x0 ∨ z = x1 ∨ z = x2 ∨ z = x3 → Q (.int z) H) : rIx K (.ref p) (.int i) H Q := by
  rcases (show i = 0 ∨ i = 1 ∨ i = 2 ∨ i = 3 by omega) with rfl | rfl | rfl | rfl
  · exact w_ixL' h (atI_nat (j := 0) rfl) (k _ (by omega))
  · exact w_ixL' h (atI_nat (j := 1) rfl) (k _ (by omega))
  · exact w_ixL' h (atI_nat (j := 2) rfl) (k _ (by omega))
  · exact w_ixL' h (atI_nat (j := 3) rfl) (k _ (by omega))
theorem w_ix5I {p : Addr} {x0 x1 x2 x3 x4 : Int} (h : SqL K H p [.int x0, .int x1, .int x2, .int x3, .int x4]) (h0 : 0 ≤ i) (h1 : i < 5) (k : ∀ z : Int, z = x0 ∨ z = x1 ∨ z = x2 ∨ z = x3 ∨ z = x4 → Q (.int z) H) : rIx K (.ref p) (.int i) H Q := by
  rcases (show i = 0 ∨ i = 1 ∨ i = 2 ∨ i = 3 ∨ i = 4 by omega) with rfl | rfl | rfl | rfl | rfl
  · exact w_ixL' h (atI_nat (j := 0) rfl) (k _ (by omega))
  · exact w_ixL' h (atI_nat (j := 1) rfl) (k _ (by omega))
  · exact w_ixL' h (atI_nat (j := 2) rfl) (k _ (by omega))
  · exact w_ixL' h (atI_nat (j := 3) rfl) (k _ (by omega))
  · exact w_ixL' h (atI_nat (j := 4) rfl) (k _ (by omega))
theorem w_ix6I {p : Addr} {x0 x1 x2 x3 x4 x5 : Int} (h : SqL K H p [.int x0, .int x1, .int x2, .int x3, .int x4, .int x5]) (h0 : 0 ≤ i) (h1 : i < 6) (k : ∀ z : Int, z = x0 ∨ z = x1 ∨ z = x2 ∨ z = x3 ∨ z = x4 ∨ z = x5 → Q (.int z) H) : rIx K (.ref p) (.int i) H Q := by
  rcases (show i = 0 ∨ i = 1 ∨ i = 2 ∨ i = 3 ∨ i = 4 ∨ i = 5 by omega) with rfl | rfl | rfl | rfl | rfl | rfl
  · exact w_ixL' h (atI_nat (j := 0) rfl) (k _ (by omega))
  · exact w_ixL' h (atI_nat (j := 1) rfl) (k _ (by omega))
  · exact w_ixL' h (atI_nat (j := 2) rfl) (k _ (by omega))
  · exact w_ixL' h (atI_nat (j := 3) rfl) (k _ (by omega))
  · exact w_ixL' h (atI_nat (j := 4) rfl) (k _ (by omega))
  · exact w_ixL' h (atI_nat (j := 5) rfl) (k _ (by omega))
theorem w_ix7I {p : Addr} {x0 x1 x2 x3 x4 x5 x6 : Int} (h : SqL K H p [.int x0, .int x1, .int x2, .int x3, .int x4, .int x5, .int x6]) (h0 : 0 ≤ i) (h1 : i < 7) (k : ∀ z : Int, z = x0 ∨ z = x1 ∨ z = x2 ∨ z = x3 ∨ z = x4 ∨ z = x5 ∨ z = x6 → Q (.int z) H) : rIx K (.ref p) (.int i) H Q := by
  rcases (show i = 0 ∨ i = 1 ∨ i = 2 ∨ i = 3 ∨ i = 4 ∨ i = 5 ∨ i = 6 by omega) with rfl | rfl | rfl | rfl | rfl | rfl | rfl
  · exact w_ixL' h (atI_nat (j := 0) rfl) (k _ (by omega))
  · exact w_ixL' h (atI_nat (j := 1) rfl) (k _ (by omega))
  · exact w_ixL' h (atI_nat (j := 2) rfl) (k _ (by omega))
  · exact w_ixL' h (atI_nat (j := 3) rfl) (k _ (by omega))
  · exact w_ixL' h (atI_nat (j := 4) rfl) (k _ (by omega))
  · exact w_ixL' h (atI_nat (j := 5) rfl) (k _ (by omega))
  · exact w_ixL' h (atI_nat (j := 6) rfl) (k _ (by omega))
theorem w_ix8I {p : Addr} {x0 x1 x2 x3 x4 x5 x6 x7 : Int} (h : SqL K H p [.int x0, .int x1, .int x2, .int x3, .int x4, .int x5, .int x6, .int x7]) (h0 : 0 ≤ i) (h1 : i < 8) (k : ∀ z : Int, z = x0 ∨ z = x1 ∨ z = x2 ∨ z = x3 ∨ z = x4 ∨ z = x5 ∨ z = x6 ∨ z = x7 → Q (.int z) H) : rIx K (.ref p) (.int i) H Q := by
  rcases (show i = 0 ∨ i = 1 ∨ i = 2 ∨ i = 3 ∨ i = 4 ∨ i = 5 ∨ i = 6 ∨ i = 7 by omega) with rfl | rfl | rfl | rfl | rfl | rfl | rfl | rfl
  · exact w_ixL' h (atI_nat (j := 0) rfl) (k _ (by omega))
  · exact w_ixL' h (atI_nat (j := 1) rfl) (k _ (by omega))
  · exact w_ixL' h (atI_nat (j := 2) rfl) (k _ (by omega))
  · exact w_ixL' h (atI_nat (j := 3) rfl) (k _ (by omega))
  · exact w_ixL' h (atI_nat (j := 4) rfl) (k _ (by omega))
  · exact w_ixL' h (atI_nat (j := 5) rfl) (k _ (by omega))
  · exact w_ixL' h (atI_nat (j := 6) rfl) (k _ (by omega))
  · exact w_ixL' h (atI_nat (j := 7) rfl) (k _ (by omega))
theorem w_mulS {a : Str} (c : MulOk a i) (k : Q (.str (Txt.mul a i)) H) : gMulS (.str a) (.int i) H Q := ⟨a, i, rfl, rfl, c, k⟩
theorem shl1_ok (h0 : 0 ≤ j) (h : j ≤ 1000000) : CShl 1 j := by
  refine ⟨h0, ?_⟩
  have : Builtin.Int.intBits 1 ≤ 1 := intBits_le (by decide)
  omega
theorem pow_bd {m : Nat} (h : j ≤ (m : Int)) : 1 ≤ 1 * (2 : Int) ^ j.toNat ∧ 1 * (2 : Int) ^ j.toNat ≤ 2 ^ m ∧ (1 ≤ j → 2 ≤ 1 * (2 : Int) ^ j.toNat) := by
  have e : ∀ n : Nat, (2 : Int) ^ n = ((2 ^ n : Nat) : Int) := fun n => by rw [Int.natCast_pow]; rfl
  have h1 : 2 ^ j.toNat ≤ 2 ^ m := Nat.pow_le_pow_right (by decide) (by omega)
  have h2 : 0 < 2 ^ j.toNat := Nat.two_pow_pos _
  rw [Int.one_mul, e, e]
  refine ⟨by omega, by omega, fun hj => ?_⟩
  have h3 : 2 ^ 1 ≤ 2 ^ j.toNat := Nat.pow_le_pow_right (by decide) (by omega)
  omega
theorem and_nat {a b : Nat} : Builtin.bitAnd (a : Int) (b : Int) = ((a &&& b : Nat) : Int) := by
  have h := bitAnd_pp (Int.natCast_nonneg a) (Int.natCast_nonneg b)
  rw [Int.toNat_natCast, Int.toNat_natCast] at h
  exact h
theorem and_bd (h0 : 0 ≤ i) (h1 : 0 ≤ j) : 0 ≤ Builtin.bitAnd i j ∧ Builtin.bitAnd i j ≤ i ∧ Builtin.bitAnd i j ≤ j := by
  obtain ⟨a, rfl⟩ := Int.eq_ofNat_of_zero_le h0
  obtain ⟨b, rfl⟩ := Int.eq_ofNat_of_zero_le h1
  rw [and_nat]
  have e1 := @Nat.and_le_left a b
  have e2 := @Nat.and_le_right a b
  omega
def gOr : R2 := rI0 fun i j => .int (Builtin.bitOr i j)
theorem w_orF (h0 : 0 ≤ i) (h1 : 0 ≤ j) (k : ∀ z : Int, z = Builtin.bitOr i j → 0 ≤ z → z ≤ i + j → Q (.int z) H) : gOr (.int i) (.int j) H Q := ⟨i, j, rfl, rfl, k _ rfl (by rw [L2.bitOr_nn h0 h1]; exact Int.natCast_nonneg _) (by rw [bitOr_and]; have := (and_bd h0 h1).1; omega)⟩
theorem dV_bl {s t : Bool} : decide (V.bl s = V.bl t) = decide (s = t) := by cases s <;> cases t <;> rfl
theorem w_eqB {s t : Bool} (k : Q (.bl (decide (s = t))) H) : gEq K (.bl s) (.bl t) H Q := .inl ⟨rfl, by rw [dV_bl]; exact k⟩
theorem w_neB {s t : Bool} (k : Q (.bl (!decide (s = t))) H) : gNe K (.bl s) (.bl t) H Q := .inl ⟨rfl, by rw [dV_bl]; exact k⟩
def gIs : R2 := fun x y H Q => y = .non ∧ Q (.bl (decide (x = .non))) H
def gNot : R2 := fun x y H Q => y = .non ∧ Q (.bl (!decide (x = .non))) H
theorem w_isN0 (k : Q (.bl true) H) : gIs .non .non H Q := ⟨rfl, by simpa using k⟩
theorem w_notN0 (k : Q (.bl false) H) : gNot .non .non H Q := ⟨rfl, by simpa using k⟩
theorem w_isNx (h : x ≠ .non) (k : Q (.bl false) H) : gIs x .non H Q := ⟨rfl, by rw [decide_eq_false h]; exact k⟩
theorem w_notNx (h : x ≠ .non) (k : Q (.bl true) H) : gNot x .non H Q := ⟨rfl, by rw [decide_eq_false h]; exact k⟩
theorem w_isBT (k : Q (.bl b) H) : rIsB (.bl b) (.bl true) H Q := ⟨b, true, rfl, rfl, by cases b <;> exact k⟩
theorem w_notBT (k : Q (.bl (!b)) H) : rNotB (.bl b) (.bl true) H Q := ⟨b, true, rfl, rfl, by cases b <;> exact k⟩
theorem w_sum {p : Addr} {ns : List Int} (h : SqL K H p (ns.map V.int)) (k : Q (.int ns.sum) H) : rSum K [.ref p] H Q := ⟨p, ns, rfl, h, k⟩
theorem w_all {p : Addr} {bs : List Bool} (h : SqL K H p (bs.map V.bl)) (k : Q (.bl (bs.all id)) H) : rAll K [.ref p] H Q := ⟨p, bs, rfl, h, k⟩
theorem w_shl1F (h0 : 0 ≤ j) (h : j ≤ 1000000) (k : ∀ z : Int, z = 2 ^ j.toNat → 1 ≤ z → (1 ≤ j → 2 ≤ z) → (j ≤ 9 → z ≤ 512) → (j ≤ 40 → z ≤ 1099511627776) → Q (.int z) H) : gShl (.int 1) (.int j) H Q := by
  obtain ⟨q1, q2, q3⟩ := pow_bd (j := j) (m := 1000000) (by omega)
  rw [Int.one_mul] at q1 q3
  refine w_shlI (shl1_ok h0 h) ?_
  rw [Int.one_mul]
  exact k _ rfl q1 q3 (fun h => by have := (pow_bd (j := j) (m := 9) (by omega)).2.1; rw [Int.one_mul] at this; omega) (fun h => by have := (pow_bd (j := j) (m := 40) (by omega)).2.1; rw [Int.one_mul] at this; omega)
theorem w_andF (h0 : 0 ≤ i) (h1 : 0 ≤ j) (k : ∀ z : Int, z = Builtin.bitAnd i j → 0 ≤ z → z ≤ i → z ≤ j → Q (.int z) H) : gAnd (.int i) (.int j) H Q := by
  obtain ⟨q1, q2, q3⟩ := and_bd h0 h1
  exact ⟨i, j, rfl, rfl, k _ rfl q1 q2 q3⟩
def BitsE (Q : VK) (x : V) (H : Hp) : Prop := ∃ i, x = .int i ∧ Q (.int (Builtin.Int.intBits i : Nat)) H
theorem w_bits {to : TE} (k : to σ H fun x H1 => BitsE Q x H1) : tBits to σ H Q := k
theorem bits_lt (i : Int) : i.natAbs < 2 ^ Builtin.Int.intBits i := by
  unfold Builtin.Int.intBits
  split
  · rename_i h
    have : i = 0 := by simpa using h
    subst this; decide
  · exact Nat.lt_log2_self
theorem w_bitsE (k : ∀ m : Nat, m = Builtin.Int.intBits i → i.natAbs < 2 ^ m → Q (.int m) H) : BitsE Q (.int i) H := ⟨i, rfl, k _ rfl (bits_lt i)⟩
theorem w_shrI (c : 0 ≤ j) (k : Q (.int (i / 2 ^ j.toNat)) H) : gShr (.int i) (.int j) H Q := ⟨i, j, rfl, rfl, c, k⟩
theorem w_andI (k : Q (.int (Builtin.bitAnd i j)) H) : gAnd (.int i) (.int j) H Q := ⟨i, j, rfl, rfl, k⟩
theorem w_ltI (k : Q (.bl (decide (i < j))) H) : gLt (.int i) (.int j) H Q := ⟨i, j, rfl, rfl, k⟩
theorem w_leI (k : Q (.bl (decide (i ≤ j))) H) : gLe (.int i) (.int j) H Q := ⟨i, j, rfl, rfl, k⟩
theorem w_gtI (k : Q (.bl (decide (j < i))) H) : gGt (.int i) (.int j) H Q := ⟨i, j, rfl, rfl, k⟩
theorem w_geI (k : Q (.bl (decide (j ≤ i))) H) : gGe (.int i) (.int j) H Q := ⟨i, j, rfl, rfl, k⟩
theorem dV_int : decide (V.int i = V.int j) = decide (i = j) := by
  by_cases h : i = j
  · subst h; simp
  · rw [decide_eq_false h, decide_eq_false (fun e => h (V.int.inj e))]
theorem dV_str {s t : Str} : decide (V.str s = V.str t) = decide (s = t) := by
  by_cases h : s = t
  · subst h; simp
  · rw [decide_eq_false h, decide_eq_false (fun e => h (V.str.inj e))]
theorem w_eqI (k : Q (.bl (decide (i = j))) H) : gEq K (.int i) (.int j) H Q := .inl ⟨rfl, by rw [dV_int]; exact k⟩
theorem w_neI (k : Q (.bl (!decide (i = j))) H) : gNe K (.int i) (.int j) H Q := .inl ⟨rfl, by rw [dV_int]; exact k⟩
theorem w_eqS {s t : Str} (k : Q (.bl (decide (s = t))) H) : gEq K (.str s) (.str t) H Q := .inl ⟨rfl, by rw [dV_str]; exact k⟩
theorem w_neS {s t : Str} (k : Q (.bl (!decide (s = t))) H) : gNe K (.str s) (.str t) H Q := .inl ⟨rfl, by rw [dV_str]; exact k⟩
theorem w_lenL {p : Addr} {xs : List V} (h : SqL K H p xs) (k : Q (.int (xs.length : Int)) H) : gLen K [.ref p] H Q := .inl ⟨p, xs, rfl, .inl h, k⟩
theorem w_lenT {p : Addr} {xs : List V} (h : SqT K H p xs) (k : Q (.int (xs.length : Int)) H) : gLen K [.ref p] H Q := .inl ⟨p, xs, rfl, .inr h, k⟩
theorem w_lenS {s : Str} (z : s.length ≤ sizeLine) (k : Q (.int (s.length : Int)) H) : gLen K [.str s] H Q := .inr ⟨s, rfl, z, k⟩
theorem w_intB (k1 : b = true → Q (.int 1) H) (k0 : b = false → Q (.int 0) H) : gIntC [.bl b] H Q := .inr ⟨b, rfl, by cases b; exact k0 rfl; exact k1 rfl⟩
theorem w_intD {c : Prop} [Decidable c] (k1 : c → Q (.int 1) H) (k0 : ¬ c → Q (.int 0) H) : gIntC [.bl (decide c)] H Q := w_intB (fun e => k1 (of_decide_eq_true e)) (fun e => k0 (of_decide_eq_false e))
theorem w_intDn {c : Prop} [Decidable c] (k1 : ¬ c → Q (.int 1) H) (k0 : c → Q (.int 0) H) : gIntC [.bl (!decide c)] H Q := w_intB (fun e => k1 (fun z => by rw [decide_eq_true z] at e; cases e)) (fun e => k0 (Decidable.byContradiction fun z => by rw [decide_eq_false z] at e; cases e))
theorem w_intI (k : Q (.int i) H) : gIntC [.int i] H Q := .inl ⟨i, rfl, k⟩
theorem w_max (k : Q (.int (max i j)) H) : gMax [.int i, .int j] H Q := ⟨i, j, rfl, by
  have e : (if j > i then j else i) = max i j := by split <;> omega
  rw [e]; exact k⟩
theorem w_min (k : Q (.int (min i j)) H) : gMin [.int i, .int j] H Q := ⟨i, j, rfl, by
  have e : (if j < i then j else i) = min i j := by split <;> omega
  rw [e]; exact k⟩
theorem w_ixL {p : Addr} {xs : List V} (h : SqL K H p xs) (a : atI xs i = some v) (k : Q v H) : rIx K (.ref p) (.int i) H Q := .inl ⟨p, xs, i, v, rfl, rfl, h, a, k⟩
theorem w_ixT {p : Addr} {xs : List V} (h : SqT K H p xs) (a : atI xs i = some v) (k : Q v H) : rIx K (.ref p) (.int i) H Q := .inr (.inl ⟨p, xs, i, v, rfl, rfl, h, a, k⟩)
/-! tests -/
theorem w_test (k : te σ H fun x H' => IsBl x fun k => QT k H') : tTest te σ H QT := k
theorem w_isbl {R : Bool → Prop} (k : R b) : IsBl (.bl b) R := ⟨b, rfl, k⟩
theorem w_B (k : te σ H fun x H' => IsBl x fun k => QT k H') : tB te σ H QT := k
theorem w_and (k : tt σ H fun c H1 => if c = true then tu σ H1 QT else QT false H1) : tAnd tt tu σ H QT := k
theorem w_or (k : tt σ H fun c H1 => if c = true then QT true H1 else tu σ H1 QT) : tOr tt tu σ H QT := k
theorem w_not (k : tt σ H fun c H1 => QT (!c) H1) : tNot tt σ H QT := k
theorem w_ife (k : tt σ H fun c H1 => if c = true then ta σ H1 Q else tb σ H1 Q) : tIf tt ta tb σ H Q := k
theorem w_andV (k : ta σ H fun x H1 => IsBl x fun c => if c = true then tb σ H1 Q else Q (.bl false) H1) : tAndV ta tb σ H Q := k
theorem w_orV (k : ta σ H fun x H1 => IsBl x fun c => if c = true then Q (.bl true) H1 else tb σ H1 Q) : tOrV ta tb σ H Q := k
theorem w_notV (k : ta σ H fun x H1 => IsBl x fun c => Q (.bl (!c)) H1) : tNotV ta σ H Q := k
theorem w_if {c A B : Prop} [Decidable c] (h1 : c → A) (h2 : ¬ c → B) : if decide c = true then A else B := by
  by_cases h : c
  · rw [decide_eq_true h]; exact h1 h
  · rw [decide_eq_false h]; exact h2 h
theorem w_ifn {c A B : Prop} [Decidable c] (h1 : ¬ c → A) (h2 : c → B) : if (!decide c) = true then A else B := by
  by_cases h : c
  · rw [decide_eq_true h]; exact h2 h
  · rw [decide_eq_false h]; exact h1 h
theorem w_ifnn {c A B : Prop} [Decidable c] (h1 : c → A) (h2 : ¬ c → B) : if (!!decide c) = true then A else B := by
  by_cases h : c
  · rw [decide_eq_true h]; exact h1 h
  · rw [decide_eq_false h]; exact h2 h
theorem w_ifY {c A B : Prop} [Decidable c] (h : c) (k : A) : if decide c = true then A else B := by rw [decide_eq_true h]; exact k
theorem w_ifZ {c A B : Prop} [Decidable c] (h : ¬ c) (k : B) : if decide c = true then A else B := by rw [decide_eq_false h]; exact k
theorem w_ifnY {c A B : Prop} [Decidable c] (h : c) (k : B) : if (!decide c) = true then A else B := by rw [decide_eq_true h]; exact k
theorem w_ifnZ {c A B : Prop} [Decidable c] (h : ¬ c) (k : A) : if (!decide c) = true then A else B := by rw [decide_eq_false h]; exact k
theorem w_intY {c : Prop} [Decidable c] (h : c) (k : Q (.int 1) H) : gIntC [.bl (decide c)] H Q := by rw [decide_eq_true h]; exact .inr ⟨true, rfl, k⟩
theorem w_intZ {c : Prop} [Decidable c] (h : ¬ c) (k : Q (.int 0) H) : gIntC [.bl (decide c)] H Q := by rw [decide_eq_false h]; exact .inr ⟨false, rfl, k⟩
theorem w_ifT {A B : Prop} (h : A) : if true = true then A else B := h
theorem w_ifF {A B : Prop} (h : B) : if false = true then A else B := h
theorem w_ifNT {A B : Prop} (h : B) : if (!true) = true then A else B := h
theorem w_ifNF {A B : Prop} (h : A) : if (!false) = true then A else B := h
/-! statements -/
theorem w_seq {n c d : L2.St → Hp → Prop} {r : VK} (k : t1 (En (t2 (En n r c d)) r c d) σ H) : tSeq t1 t2 (En n r c d) σ H := k
theorem w_asg {n : Nat} (k : te σ H fun x H1 => NX D (σ.set n (some x)) H1) : tAsg te (gName n) D σ H := k
theorem w_asgG {g : TG} (k : te σ H fun x H1 => g x σ H1 (NX D)) : tAsg te g D σ H := k
def Par (n m : Nat) (D : Ends) (σ : L2.St) (vs : List V) (H : Hp) : Prop := ∃ v w, vs = [v, w] ∧ D.nx ((σ.set n (some v)).set m (some w)) H
theorem w_par {n m : Nat} {t : TA} (k : t σ H fun vs H1 => Par n m D σ vs H1) : tPar n m t D σ H := k
theorem w_parE {n m : Nat} (k : NX D ((σ.set n (some x)).set m (some y)) H) : Par n m D σ [x, y] H := ⟨x, y, rfl, k⟩
def Par3 (n m l : Nat) (D : Ends) (σ : L2.St) (vs : List V) (H : Hp) : Prop := ∃ u v w, vs = [u, v, w] ∧ D.nx (((σ.set n (some u)).set m (some v)).set l (some w)) H
theorem w_par3 {n m l : Nat} {t : TA} (k : t σ H fun vs H1 => Par3 n m l D σ vs H1) : tPar3 n m l t D σ H := k
theorem w_par3E {n m l : Nat} {z : V} (k : NX D (((σ.set n (some x)).set m (some y)).set l (some z)) H) : Par3 n m l D σ [x, y, z] H := ⟨x, y, z, rfl, k⟩
theorem w_aug {n : Nat} {ti : TIp} (h : σ[n]? = some (some x)) (k : te σ H fun y H1 => ti x y H1 fun z H2 => NX D (σ.set n (some z)) H2) : tAug n te ti D σ H := ⟨x, h, k⟩
theorem w_ret (k : te σ H fun v H1 => RT D v H1) : tRet te D σ H := k
theorem w_drop (k : te σ H fun _ H1 => NX D σ H1) : tDrop te D σ H := k
theorem w_ifs (k : tt σ H fun b H1 => if b = true then t1 D σ H1 else t2 D σ H1) : tIfS tt t1 t2 D σ H := k
theorem w_next (k : NX D σ H) : tNext D σ H := k
theorem w_nx {n c d : L2.St → Hp → Prop} {r : VK} (k : n σ H) : NX (En n r c d) σ H := k
theorem w_rt {n c d : L2.St → Hp → Prop} {r : VK} (k : r v H) : RT (En n r c d) v H := k
theorem w_start {n : L2.St → Hp → Prop} {r : VK} {t : TS} (k : t (En n r (fun _ _ => False) (fun _ _ => False)) σ H) : t { nx := n, rt := r } σ H := k
theorem w_gname {n : Nat} {R : L2.St → Hp → Prop} (k : R (σ.set n (some v)) H) : gName n v σ H R := k
theorem w_gnil {R : L2.St → Hp → Prop} (k : R σ H) : gNil [] σ H R := ⟨rfl, k⟩
theorem w_gcons {g : TG} {u : TGs} {r : List V} {R : L2.St → Hp → Prop} (k : g v σ H fun σ' H' => u r σ' H' R) : gCons g u (v :: r) σ H R := ⟨v, r, rfl, k⟩
theorem w_gtup {a : Addr} {xs : List V} {n : Nat} {u : TGs} {R : L2.St → Hp → Prop} (h : SqT K H a xs) (l : xs.length = n) (k : u xs σ H R) : gTup2 K n u (.ref a) σ H R := ⟨a, xs, rfl, h, l, k⟩
theorem w_gsub {to ti : TE} {t : TSet} {R : L2.St → Hp → Prop} (k : to σ H fun o H1 => ti σ H1 fun i H2 => t o i v H2 fun H3 => R σ H3) : gSub to ti t v σ H R := k
theorem w_setL {l : Addr} {xs : List V} {n : Nat} {R : Hp → Prop} (h : H l = some (.lst xs)) (e : ixN xs.length i = some n) (k : ∀ H', Kp l H H' → H' l = some (.lst (xs.set n v)) → R H') : rSetL (.ref l) (.int i) v H R :=
  ⟨l, xs, i, n, rfl, rfl, h, e, k _ kp_upd upd_same⟩
theorem w_bm {T : String} {r : V → List V → Hp → VK → Prop} {to : TE} {t : TA} (k : to σ H fun x H1 => BmE K T x H1 (t σ H1 fun xs H2 => r x xs H2 Q)) : tBM K T r to t σ H Q := k
theorem w_bmL {l : Addr} {xs : List V} {R : Prop} (h : H l = some (.lst xs)) (k : R) : BmE K "list" (.ref l) H R := ⟨.inl ⟨rfl, xs, Or.inl (Or.inl h)⟩, k⟩
theorem w_app {l : Addr} {xs : List V} (h : H l = some (.lst xs)) (z : xs.length < sizeLine) (k : ∀ H', Kp l H H' → H' l = some (.lst (xs ++ [v])) → Q .non H') : rAppend (.ref l) [v] H Q :=
  ⟨l, xs, v, rfl, rfl, h, z, k _ kp_upd upd_same⟩
theorem ty_list {l : Addr} {xs : List V} (h : H l = some (.lst xs)) : tyV K "list" (.ref l) H := .inl ⟨rfl, xs, sq_of h⟩
theorem w_slL {a : Addr} {xs : List V} {lo hi : Option Int} (h : SqL K H a xs) (k : ∀ p H', H p = none → Sm H H' → H' p = some (.lst (cutV xs lo hi)) → Q (.ref p) H') : gSl K (.ref a) lo hi H Q := .inl ⟨a, xs, rfl, h, fun p hp => k p _ hp (sm_new hp) upd_same⟩
theorem cut_whole {xs : List V} {lo hi : Option Int} (h : HT.sIx xs.length 0 lo = 0 ∧ HT.sIx xs.length xs.length hi = xs.length) : cutV xs lo hi = xs := by
  unfold cutV
  rw [h.1, h.2, List.drop_zero, Nat.sub_zero, List.take_length]
theorem w_slT {a : Addr} {xs : List V} {lo hi : Option Int} (h : H a = some (.tup xs)) (k : ∀ p H', Sm H H' → H' p = some (.tup (cutV xs lo hi)) → Q (.ref p) H') : gSl K (.ref a) lo hi H Q :=
  .inr ⟨a, xs, rfl, st_of h, fun w => k a H (Same.refl _) (by rw [cut_whole w]; exact h), fun _ p hp => k p _ (sm_new hp) upd_same⟩
theorem w_catT {a b : Addr} {xs ys : List V} (h1 : H a = some (.tup xs)) (h2 : H b = some (.tup ys)) (z : xs.length + ys.length ≤ sizeLine) (k : ∀ p H', Sm H H' → H' p = some (.tup (xs ++ ys)) → Q (.ref p) H') : gAdd K (.ref a) (.ref b) H Q :=
  .inr (.inr (.inr ⟨a, b, xs, ys, rfl, rfl, st_of h1, st_of h2, z, fun e => k b H (Same.refl _) (by rw [e]; exact h2), fun _ e => k a H (Same.refl _) (by rw [e, List.append_nil]; exact h1), fun _ _ p hp => k p _ (sm_new hp) upd_same⟩))
theorem w_sl {r : V → Option Int → Option Int → Hp → VK → Prop} {tl th : TO} (k : te σ H fun x H1 => tl σ H1 fun l H2 => th σ H2 fun u H3 => r x l u H3 Q) : tSl r te tl th σ H Q := k
theorem w_po0 {R : Option Int → Hp → Prop} (k : R none H) : tNoPart σ H R := k
theorem w_po1 {R : Option Int → Hp → Prop} (k : te σ H fun x H1 => PartE R x H1) : tPart te σ H R := k
theorem w_poE {R : Option Int → Hp → Prop} (k : R (some i) H) : PartE R (.int i) H := ⟨i, rfl, k⟩
theorem w_clear {l : Addr} {xs : List V} (h : H l = some (.lst xs)) (k : ∀ H', Kp l H H' → H' l = some (.lst []) → Q .non H') : tyV K "list" (.ref l) H ∧ rClear (.ref l) [] H Q :=
  ⟨ty_list h, l, xs, rfl, rfl, h, k _ kp_upd upd_same⟩
end
/-! a field read inside a comprehension: the context's K is named -/
end Rs
namespace Rs
open PySem L2 PyProof.Rows PySem.NumText
/-! ### the walk's own words -/
local macro_rules | `(tactic| tm_at "rlk") => `(tactic| first | with_reducible assumption | ((refine' g_lk ?sg ?sh); (case sg => with_reducible assumption); (case sh => tm_at "rlk0")) | fail "no")
local macro_rules | `(tactic| tm_at "rlk0") => `(tactic| first | with_reducible assumption | (refine' Same.get ?sa ?sb; (case sa => with_reducible assumption); (case sb => tm_at "rlk0")) | (refine' Kp.get ?sa ?sc ?sb; (case sa => with_reducible assumption); (case sc => tm_at "rne"); (case sb => tm_at "rlk0")) | fail "no")
local macro_rules | `(tactic| tm_at "rne") => `(tactic| first | with_reducible assumption | (apply Ne.symm; assumption) | (refine' ne_new ?sa ?sb; (case sa => with_reducible assumption); (case sb => tm_at "rlk")) | (refine' ne_new2 ?sa ?sb; (case sa => with_reducible assumption); (case sb => tm_at "rlk")) | fail "no")
local macro_rules | `(tactic| tm_at "rsf") => `(tactic| first | with_reducible assumption | ((refine' g_sqf ?sg ?sh); (case sg => with_reducible assumption); (case sh => tm_at "rsf0")) | fail "no")
local macro_rules | `(tactic| tm_at "rsf0") => `(tactic| first | with_reducible assumption | ((refine' SqF.sm ?sa ?sb); (case sb => with_reducible assumption); (case sa => tm_at "rsf0")) | ((refine' SqF.kp ?sa ?sc ?sb); (case sb => with_reducible assumption); (case sc => tm_at "rlk"); (case sa => tm_at "rsf0")) | fail "no")
local macro_rules | `(tactic| tm_at "rsq") => `(tactic| first | with_reducible assumption | ((refine' SqF.sq ?sz); (case sz => tm_at "rsf")) | ((refine' sq_of ?sz); (case sz => tm_at "rlk")) | (refine' sm_sq ?sa ?sb; (case sa => with_reducible assumption); (case sb => tm_at "rsq")) | (refine' kp_sq ?sa ?sc ?sb; (case sa => with_reducible assumption); (case sc => tm_at "rne"); (case sb => tm_at "rsq")) | fail "no")
local macro_rules | `(tactic| tm_at "rst") => `(tactic| first | with_reducible assumption | ((refine' st_of ?sz); (case sz => tm_at "rlk")) | fail "no")
local macro_rules | `(tactic| tm_at "rat") => `(tactic| first | with_reducible assumption | exact atI_nat (j := 0) rfl | exact atI_nat (j := 1) rfl | exact atI_nat (j := 2) rfl | exact atI_nat (j := 3) rfl | exact atI_nat (j := 4) rfl | exact atI_nat (j := 5) rfl | fail "no")
local macro_rules | `(tactic| tm_at "rsz") => `(tactic| first | with_reducible assumption | exact sz_of (Nat.le_of_ble_eq_true rfl) | (apply sz_of; omega) | ((refine sz_of (Nat.le_trans (Nat.add_le_add_left (cutV_length _ _ _) _) ?_)); omega) | ((refine sz_of (Nat.le_trans (Nat.add_le_add_left (cutV_length _ _ _) _) ?_)); (simp only [List.length_cons, List.length_nil, List.length_append]); omega) | (apply sz_lt; omega) | ((apply sz_of); (simp only [List.length_cons, List.length_nil, List.length_append]); omega) | ((apply sz_lt); (simp only [List.length_cons, List.length_nil, List.length_append]); omega) | ((apply sz_of); (simp only [List.length_cons, List.length_nil, List.length_append, List.length_take, List.length_drop, List.length_map, List.length_replicate, List.length_set]); omega) | ((apply sz_lt); (simp only [List.length_cons, List.length_nil, List.length_append, List.length_take, List.length_drop, List.length_map, List.length_replicate, List.length_set]); omega) | decide | fail "no")
local macro_rules | `(tactic| tm_at "rc") => `(tactic| first | with_reducible assumption | exact .inl (.inl (by decide)) | exact .inl (.inr (by decide)) | exact .inl (.inl ⟨by omega, by omega⟩) | exact .inl (.inr ⟨by omega, by omega⟩) | fail "no")
local macro_rules | `(tactic| tm_at "rfr") => `(tactic| first | with_reducible assumption | ((refine' g_fr ?sg ?sh); (case sg => with_reducible assumption); (case sh => tm_at "rfr0")) | fail "no")
local macro_rules | `(tactic| tm_at "rfr0") => `(tactic| first | with_reducible assumption | ((refine' Same.free ?sa ?sb); (case sa => with_reducible assumption); (case sb => tm_at "rfr0")) | ((refine' kp_free ?sa ?sc ?sb); (case sa => with_reducible assumption); (case sb => tm_at "rfr0"); (case sc => tm_at "rne")) | fail "no")
local macro_rules | `(tactic| tm_at "rsm") => `(tactic| first | with_reducible assumption | exact Same.refl _ | ((refine' Same.trans ?sa ?sb); (case sb => with_reducible assumption); (case sa => tm_at "rsm")) | ((refine' sm_mut ?sa ?sc ?sb); (case sb => with_reducible assumption); (case sc => tm_at "rfr"); (case sa => tm_at "rsm")) | fail "no")
local macro_rules | `(tactic| tm_at "rkp") => `(tactic| first | with_reducible assumption | exact Kp.refl _ | ((refine' Kp.trans ?sa ?sb); (case sb => first | with_reducible assumption | exact Kp.of (by with_reducible assumption)); (case sa => tm_at "rkp")) | ((refine' kp_mut ?sa ?sc ?sb); (case sb => with_reducible assumption); (case sc => tm_at "rfr"); (case sa => tm_at "rkp")) | fail "no")
local macro_rules | `(tactic| tm_at "rs") => `(tactic| first
  | ((with_reducible refine' w_var ?h ?k); (case h => rfl))
  | with_reducible refine w_seq ?_
  | with_reducible refine w_nx ?_
  | with_reducible refine w_rt ?_
  | with_reducible refine w_c ?_
  | with_reducible refine w_op ?_
  | with_reducible refine w_un ?_
  | with_reducible refine w_rU ?_
  | with_reducible refine w_cb ?_
  | with_reducible refine w_cons ?_
  | with_reducible refine w_nil ?_
  | with_reducible refine w_asg ?_
  | with_reducible refine w_ret ?_
  | with_reducible refine w_ifs ?_
  | with_reducible refine w_call ?_
  | with_reducible refine w_callK ?_
  | with_reducible refine w_test ?_
  | with_reducible refine w_isbl ?_
  | with_reducible refine w_addI ?_
  | with_reducible refine w_I0 ?_
  | ((with_reducible refine w_andF ?h ?i (fun _ _ _ _ _ => ?_)); (case h => omega); (case i => omega))
  | with_reducible refine w_andI ?_
  | with_reducible refine w_ltI ?_
  | with_reducible refine w_leI ?_
  | with_reducible refine w_gtI ?_
  | with_reducible refine w_geI ?_
  | with_reducible refine w_eqI ?_
  | with_reducible refine w_neI ?_
  | with_reducible refine w_isN0 ?_
  | with_reducible refine w_notN0 ?_
  | ((with_reducible refine w_isNx ?h ?_); (case h => (intro e; cases e)))
  | ((with_reducible refine w_notNx ?h ?_); (case h => (intro e; cases e)))
  | with_reducible refine w_isBT ?_
  | with_reducible refine w_notBT ?_
  | with_reducible refine w_eqB ?_
  | with_reducible refine w_neB ?_
  | ((with_reducible refine w_orF ?h ?i (fun _ _ _ _ => ?_)); (case h => omega); (case i => omega))
  | with_reducible refine w_eqS ?_
  | with_reducible refine w_neS ?_
  | with_reducible refine w_max ?_
  | with_reducible refine w_min ?_
  | with_reducible refine w_intI ?_
  | with_reducible refine w_lst ?_
  | with_reducible refine w_tup ?_
  | with_reducible refine w_ifT ?_
  | with_reducible refine w_ifNT ?_
  | with_reducible refine w_ifNF ?_
  | with_reducible refine w_ifF ?_
  | with_reducible refine w_or ?_
  | with_reducible refine w_and ?_
  | with_reducible refine w_not ?_
  | with_reducible refine w_ife ?_
  | with_reducible refine w_andV ?_
  | with_reducible refine w_orV ?_
  | with_reducible refine w_notV ?_
  | with_reducible refine w_B ?_
  | with_reducible refine w_next ?_
  | with_reducible refine w_drop ?_
  | with_reducible refine w_par ?_
  | with_reducible refine w_parE ?_
  | with_reducible refine w_par3 ?_
  | with_reducible refine w_par3E ?_
  | with_reducible refine w_asgG ?_
  | with_reducible refine w_gsub ?_
  | with_reducible refine w_bm ?_
  | with_reducible refine w_sl ?_
  | with_reducible refine w_po0 ?_
  | with_reducible refine w_po1 ?_
  | with_reducible refine w_poE ?_
  | with_reducible refine w_for ?_
  | with_reducible refine w_iR1 ?_
  | with_reducible refine w_iR2 ?_
  | with_reducible refine w_iL ?_
  | with_reducible refine w_iT ?_
  | with_reducible refine w_sp ?_
  | ((with_reducible refine' w_aug ?h ?k); (case h => rfl))
  | with_reducible refine w_wt ?_
  | with_reducible refine w_shr1 ?_
  | with_reducible refine w_iaddI ?_
  | with_reducible refine w_xorI ?_
  | with_reducible refine w_isiIb ?_
  | with_reducible refine w_isiIi ?_
  | with_reducible refine w_isiBb ?_
  | with_reducible refine w_isiSs ?_
  | with_reducible refine w_gname ?_
  | with_reducible refine w_gnil ?_
  | with_reducible refine w_gcons ?_
  | ((with_reducible refine' w_gtup ?h ?l ?k); (case h => tm_at "rst"); (case l => rfl))
  | ((with_reducible refine w_imulI ?h ?_); (case h => tm_at "rc"))
  | ((with_reducible refine w_shl1F ?h ?i (fun _ _ _ _ _ _ => ?_)); (case h => omega); (case i => omega))
  | with_reducible refine w_bits ?_
  | with_reducible refine w_bitsE (fun _ _ _ => ?_)
  | ((with_reducible refine w_shlI ?h ?_); (case h => first | assumption | exact ⟨by decide, by decide⟩))
  | ((with_reducible refine w_modI ?h ?_); (case h => decide))
  | ((with_reducible refine w_modF ?h (fun _ _ _ _ _ => ?_)); (case h => omega))
  | ((with_reducible refine w_divI ?h ?_); (case h => (first | assumption | exact ⟨by decide, by decide +kernel⟩ | exact ⟨by assumption, by assumption⟩)))
  | ((with_reducible refine w_mulI ?h ?_); (case h => tm_at "rc"))
  | ((with_reducible refine w_powI ?h ?_); (case h => exact ⟨by decide, by decide, by decide +kernel⟩))
  | ((with_reducible refine w_shrI ?h ?_); (case h => (first | decide | omega)))
  | ((with_reducible refine w_intY ?h ?_); (case h => decide +kernel))
  | ((with_reducible refine w_intZ ?h ?_); (case h => decide +kernel))
  | with_reducible refine w_intD (fun _ => ?_) (fun _ => ?_)
  | with_reducible refine w_intDn (fun _ => ?_) (fun _ => ?_)
  | with_reducible refine w_intB (fun _ => ?_) (fun _ => ?_)
  | ((with_reducible refine' w_lenL ?h ?k); (case h => tm_at "rsq"))
  | ((with_reducible refine' w_lenT ?h ?k); (case h => tm_at "rst"))
  | ((with_reducible refine' w_ixL ?h ?a ?k); (case h => tm_at "rsq"); (case a => tm_at "rat"))
  | ((with_reducible refine' w_ixT ?h ?a ?k); (case h => tm_at "rst"); (case a => tm_at "rat"))
  | ((with_reducible refine w_newL ?h (fun _ _ _ _ _ => ?_)); (case h => exact sz_of (Nat.le_of_ble_eq_true rfl)))
  | ((with_reducible refine w_newT ?h (fun _ _ _ _ _ => ?_)); (case h => exact sz_of (Nat.le_of_ble_eq_true rfl)))
  | ((with_reducible refine' w_ix2I ?h ?a ?b (fun _ _ => ?k)); (case h => tm_at "rsq"); (case a => omega); (case b => omega))
  | ((with_reducible refine' w_ix3I ?h ?a ?b (fun _ _ => ?k)); (case h => tm_at "rsq"); (case a => omega); (case b => omega))
  | ((with_reducible refine' w_ix4I ?h ?a ?b (fun _ _ => ?k)); (case h => tm_at "rsq"); (case a => omega); (case b => omega))
  | ((with_reducible refine' w_ix5I ?h ?a ?b (fun _ _ => ?k)); (case h => tm_at "rsq"); (case a => omega); (case b => omega))
  | ((with_reducible refine' w_ix6I ?h ?a ?b (fun _ _ => ?k)); (case h => tm_at "rsq"); (case a => omega); (case b => omega))
  | ((with_reducible refine' w_ix7I ?h ?a ?b (fun _ _ => ?k)); (case h => tm_at "rsq"); (case a => omega); (case b => omega))
  | ((with_reducible refine' w_ix8I ?h ?a ?b (fun _ _ => ?k)); (case h => tm_at "rsq"); (case a => omega); (case b => omega))
  | ((with_reducible refine' w_sum ?h ?k); (case h => tm_at "rsq"))
  | ((with_reducible refine' w_all ?h ?k); (case h => tm_at "rsq"))
  | with_reducible refine w_lc ?_
  | with_reducible refine w_yes ?_
  | ((with_reducible refine w_lcGo ?h ?_); (case h => rfl))
  | ((with_reducible refine' w_lcEnd ?h ?z (fun _ _ _ => ?k)); (case h => tm_at "rlk"); (case z => tm_at "rsz"))
  | ((with_reducible refine w_ifY ?h ?_); (case h => decide +kernel))
  | ((with_reducible refine w_ifZ ?h ?_); (case h => decide +kernel))
  | ((with_reducible refine w_ifnY ?h ?_); (case h => decide +kernel))
  | ((with_reducible refine w_ifnZ ?h ?_); (case h => decide +kernel))
  | with_reducible refine w_if (fun _ => ?_) (fun _ => ?_)
  | with_reducible refine w_ifn (fun _ => ?_) (fun _ => ?_)
  | with_reducible refine w_ifnn (fun _ => ?_) (fun _ => ?_)
  | ((with_reducible refine' w_setL ?h ?e (fun _ _ _ => ?k)); (case h => tm_at "rlk"); (case e => rfl))
  | ((with_reducible refine' w_bmL ?h ?k); (case h => tm_at "rlk"))
  | ((with_reducible refine' w_app ?h ?z (fun _ _ _ => ?k)); (case h => tm_at "rlk"); (case z => tm_at "rsz"))
  | ((with_reducible refine' w_slL ?h (fun _ _ _ _ _ => ?k)); (case h => tm_at "rsq"))
  | ((with_reducible refine' w_slT ?h (fun _ _ _ _ => ?k)); (case h => tm_at "rlk"))
  | ((with_reducible refine' w_addL ?h ?i ?z (fun _ _ _ _ _ => ?k)); (case h => tm_at "rlk"); (case i => tm_at "rlk"); (case z => tm_at "rsz"))
  | ((with_reducible refine' w_catT ?h ?i ?z (fun _ _ _ _ => ?k)); (case h => tm_at "rlk"); (case i => tm_at "rlk"); (case z => tm_at "rsz"))
  | ((with_reducible refine' w_inS2 ?h ?k); (case h => tm_at "rst"))
  | ((with_reducible refine' w_niS2 ?h ?k); (case h => tm_at "rst"))
  | ((with_reducible refine' w_isiTup ?h ?k); (case h => tm_at "rlk"))
  | ((with_reducible refine' w_clear ?h (fun _ _ _ => ?k)); (case h => tm_at "rlk"))
  | ((with_reducible refine' w_iLe ?h ?k); (case h => tm_at "rsq"))
  | ((with_reducible refine' w_iTe ?h ?k); (case h => tm_at "rst"))
  | ((with_reducible refine w_iR1e ?h ?i ?_); (case h => omega); (case i => omega))
  | ((with_reducible refine w_iR2e ?h ?_); (case h => (refine ⟨?_, ?_, ?_, ?_⟩ <;> omega)))
  | fail "no")
def topS (i : Nat) : Stmt := PySem.Challenge.pw_runsums_k23_parts_depths_sums.main.body.getD i (.Pass ⟨0, 0, 0, 0⟩)
abbrev s_f_law_box : Stmt := topS 7
theorem sc_f_law_box : FnScope ["script", "k", "cell", "seed"] ["script", "k"] (defScope s_f_law_box) := ⟨rfl, rfl, rfl, by decide +kernel, rfl, by decide +kernel, by decide +kernel⟩
abbrev s_f_law_take : Stmt := topS 8
theorem sc_f_law_take : FnScope ["box", "wide", "digit", "one"] ["box", "wide"] (defScope s_f_law_take) := ⟨rfl, rfl, rfl, by decide +kernel, rfl, by decide +kernel, by decide +kernel⟩
abbrev s_f_law_words : Stmt := topS 10
theorem sc_f_law_words : FnScope ["box", "many", "signs", "first", "stem", "k", "at", "turn"] ["box", "many"] (defScope s_f_law_words) := ⟨rfl, rfl, rfl, by decide +kernel, rfl, by decide +kernel, by decide +kernel⟩
abbrev s_f_law_great : Stmt := topS 9
theorem sc_f_law_great : FnScope ["box", "form"] ["box"] (defScope s_f_law_great) := ⟨rfl, rfl, rfl, by decide +kernel, rfl, by decide +kernel, by decide +kernel⟩
abbrev s_f_law_term : Stmt := topS 11
theorem sc_f_law_term : FnScope ["box", "names", "room", "down", "form", "one", "first", "word"] ["box", "names", "room", "down"] (defScope s_f_law_term) := ⟨rfl, rfl, rfl, by decide +kernel, rfl, by decide +kernel, by decide +kernel⟩
abbrev s_f_law_long : Stmt := topS 12
theorem sc_f_law_long : FnScope ["box", "names", "many", "found", "turn", "leaf", "word"] ["box", "names", "many"] (defScope s_f_law_long) := ⟨rfl, rfl, rfl, by decide +kernel, rfl, by decide +kernel, by decide +kernel⟩
abbrev s_f_is_leaf : Stmt := topS 1
theorem sc_f_is_leaf : FnScope ["term"] ["term"] (defScope s_f_is_leaf) := ⟨rfl, rfl, rfl, by decide +kernel, rfl, by decide +kernel, by decide +kernel⟩
abbrev s_f_all_in : Stmt := topS 3
theorem sc_f_all_in : FnScope ["term", "found", "left", "part", "down"] ["term"] (defScope s_f_all_in) := ⟨rfl, rfl, rfl, by decide +kernel, rfl, by decide +kernel, by decide +kernel⟩
abbrev s_f_parts : Stmt := topS 4
theorem sc_f_parts : FnScope ["term"] ["term"] (defScope s_f_parts) := ⟨rfl, rfl, rfl, by decide +kernel, rfl, by decide +kernel, by decide +kernel⟩
abbrev s_f_deep : Stmt := topS 5
theorem sc_f_deep : FnScope ["term", "part", "down"] ["term"] (defScope s_f_deep) := ⟨rfl, rfl, rfl, by decide +kernel, rfl, by decide +kernel, by decide +kernel⟩
abbrev s_f_sum_of : Stmt := topS 2
theorem sc_f_sum_of : FnScope ["terms", "found", "k", "term"] ["terms"] (defScope s_f_sum_of) := ⟨rfl, rfl, rfl, by decide +kernel, rfl, by decide +kernel, by decide +kernel⟩
abbrev s_f_law_walked : Stmt := topS 13
theorem sc_f_law_walked : FnScope ["term", "many", "most", "left", "part", "down", "inner"] ["term"] (defScope s_f_law_walked) := ⟨rfl, rfl, rfl, by decide +kernel, rfl, by decide +kernel, by decide +kernel⟩
abbrev s_f_law_whole : Stmt := topS 14
theorem sc_f_law_whole : FnScope ["number"] ["number"] (defScope s_f_law_whole) := ⟨rfl, rfl, rfl, by decide +kernel, rfl, by decide +kernel, by decide +kernel⟩
abbrev s_f_law : Stmt := topS 15
theorem sc_f_law : FnScope ["script", "k", "box", "names", "some", "turn", "full", "term", "found", "due", "at", "kept"] ["script"] (defScope s_f_law) := ⟨rfl, rfl, rfl, by decide +kernel, rfl, by decide +kernel, by decide +kernel⟩
def gg_f_sum_of_terms {α : Type} : List α → List α → List α
  | [], [b0] => [b0]
  | _, _ => []
def gk_f_sum_of_terms : List V → List V → List V := gg_f_sum_of_terms
theorem rel_gg_f_sum_of_terms {vs : List V} {us : List Value} {zs : List V} {ws : List Value} (r1 : Vals vs us) (r2 : Vals zs ws) : Vals (gg_f_sum_of_terms vs zs) (gg_f_sum_of_terms us ws) := by
  rcases r1 with _ | ⟨p0, _⟩ <;> rcases r2 with _ | ⟨q0, _ | ⟨q1, _⟩⟩ <;> (first | exact Paired.nil | (repeat' (first | exact Paired.nil | assumption | refine Paired.cons ?_ ?_)))
theorem cgk_f_sum_of_terms {b0 : V} {sp : Sp} {H : Hp} {Q : VK} {E : XK} (k : sp [b0] H Q E) : sp (gk_f_sum_of_terms [] [b0]) H Q E := k
local macro_rules | `(tactic| tm_at "rs") => `(tactic| with_reducible refine cgk_f_sum_of_terms ?_)
theorem kb_f_sum_of_terms {K : PySem.W.Frag} {f : Addr} {fd : FuncData} (F : Fun K "sum_of" "sum_of" s_f_sum_of f fd) : KBinds K fd ["terms"] ["terms"] gg_f_sum_of_terms gk_f_sum_of_terms := by
  obtain ⟨oc, od, kV, doc, pm, an, cdv, ct, osl, rfl, lk, hcd⟩ := F.ex
  exact ⟨fun s us ws _ hl => match us, ws, hl with | [], [b0], _ => .of_eq rfl, fun r1 r2 => rel_gg_f_sum_of_terms r1 r2⟩
/-! a box of draws -/
def BoxAt (H : Hp) (b : Addr) : Prop := ∃ x s : Int, H b = some (.lst [.int x, .int s]) ∧ 0 ≤ x ∧ 0 ≤ s ∧ s ≤ 2147483629
theorem BoxAt.sm {H H' : Hp} {b : Addr} (h : BoxAt H b) (e : Sm H H') : BoxAt H' b := by
  obtain ⟨x, s, h, r⟩ := h
  exact ⟨x, s, e _ _ h, r⟩
theorem BoxAt.kp {H H' : Hp} {b c : Addr} (h : BoxAt H b) (n : b ≠ c) (e : Kp c H H') : BoxAt H' b := by
  obtain ⟨x, s, h, r⟩ := h
  exact ⟨x, s, e _ _ n h, r⟩
theorem BoxAt.lst {H : Hp} {b : Addr} (h : BoxAt H b) : ∃ xs, H b = some (.lst xs) := by
  obtain ⟨x, s, h, r⟩ := h
  exact ⟨_, h⟩
def Wd (w : Int) : Prop := 0 < w ∧ w.natAbs.log2 < 9000
theorem wd_of {w : Int} (h0 : 0 < w) (h : w ≤ 10 ^ 60) : Wd w := by
  refine ⟨h0, ?_⟩
  have h1 : w.natAbs ≠ 0 := by omega
  rw [Nat.log2_lt h1]
  have h2 : w.natAbs ≤ 10 ^ 60 := by omega
  exact Nat.lt_of_le_of_lt h2 (by decide +kernel)
theorem wd_pow {w : Int} {k : Nat} (h0 : 0 < w) (h : w ≤ 2 ^ k) (hk : k < 9000) : Wd w := by
  refine ⟨h0, ?_⟩
  have h1 : w.natAbs ≠ 0 := by omega
  rw [Nat.log2_lt h1]
  have h2 : (w.natAbs : Int) ≤ ((2 ^ k : Nat) : Int) := by
    rw [Int.natCast_pow]
    have e : ((w.natAbs : Nat) : Int) = w := by omega
    rw [e]; exact h
  have h3 : w.natAbs ≤ 2 ^ k := Int.ofNat_le.mp h2
  exact Nat.lt_of_le_of_lt h3 (Nat.pow_lt_pow_right (by decide) hk)
theorem wd_two {z j : Int} (e : z = 2 ^ j.toNat) (l : j < 9000) : Wd z := by
  have h1 : (1 : Int) ≤ 2 ^ j.toNat := by
    have := Nat.two_pow_pos j.toNat
    have h2 : (2 : Int) ^ j.toNat = ((2 ^ j.toNat : Nat) : Int) := by rw [Int.natCast_pow]; rfl
    omega
  exact wd_pow (k := j.toNat) (by omega) (by omega) (by omega)
theorem ne_newB {H : Hp} {p b : Addr} (hp : H p = none) (hb : BoxAt H b) : p ≠ b := by
  obtain ⟨x, s, h, _⟩ := hb
  exact ne_new hp h
theorem ne_newB2 {H : Hp} {p b : Addr} (hp : H p = none) (hb : BoxAt H b) : b ≠ p := (ne_newB hp hb).symm
theorem g_bx {H H0 : Hp} {b : Addr} (_ : BoxAt H0 b) (h : BoxAt H b) : BoxAt H b := h
local macro_rules | `(tactic| tm_at "rbx") => `(tactic| first | with_reducible assumption | ((refine' g_bx ?sg ?sh); (case sg => with_reducible assumption); (case sh => tm_at "rbx0")) | fail "no")
local macro_rules | `(tactic| tm_at "rbx0") => `(tactic| first | with_reducible assumption | ((refine' BoxAt.sm ?sa ?sb); (case sb => with_reducible assumption); (case sa => tm_at "rbx0")) | ((refine' BoxAt.kp ?sa ?sc ?sb); (case sb => with_reducible assumption); (case sc => tm_at "rne"); (case sa => tm_at "rbx0")) | fail "no")
local macro_rules | `(tactic| tm_at "rne") => `(tactic| first | ((refine' ne_newB ?sa ?sb); (case sa => with_reducible assumption); (case sb => tm_at "rbx")) | ((refine' ne_newB2 ?sa ?sb); (case sa => with_reducible assumption); (case sb => tm_at "rbx")) | fail "no")
theorem AllT.kpB {P : List V → Prop} {xs : List V} {H H' : Hp} {b : Addr} (h : AllT P xs H) (hb : BoxAt H b) (e : Kp b H H') : AllT P xs H' := by
  obtain ⟨x, s, hb, _⟩ := hb
  exact h.kp hb e
local macro_rules | `(tactic| tm_at "rall") => `(tactic| first | with_reducible assumption | exact AllT.nil | ((refine' AllT.add ?sa ?sb ?sp); (case sa => tm_at "rall"); (case sb => tm_at "rlk"); (case sp => with_reducible assumption)) | ((refine' AllT.add ?sa ?sb ?sp); (case sa => tm_at "rall"); (case sb => tm_at "rlk")) | ((refine' AllT.app ?sa ?sb); (case sa => tm_at "rall"); (case sb => tm_at "rall")) | ((refine' AllT.cut ?sa); (case sa => tm_at "rall")) | ((refine' AllT.sm ?sa ?sb); (case sb => with_reducible assumption); (case sa => tm_at "rall")) | ((refine' AllT.kpB ?sa ?sc ?sb); (case sb => with_reducible assumption); (case sc => tm_at "rbx"); (case sa => tm_at "rall")) | ((refine' AllT.kp ?sa ?sc ?sb); (case sb => with_reducible assumption); (case sc => tm_at "rlk"); (case sa => tm_at "rall")) | fail "no")
theorem SqF.kpB {K : PySem.W.Frag} {xs : List V} {a : Addr} {H H' : Hp} {b : Addr} (h : SqF K H a xs) (hb : BoxAt H b) (e : Kp b H H') : SqF K H' a xs := by
  obtain ⟨x, s, hb, _⟩ := hb
  exact h.kp hb e
local macro_rules | `(tactic| tm_at "rsf0") => `(tactic| ((refine' SqF.kpB ?sa ?sc ?sb); (case sb => with_reducible assumption); (case sc => tm_at "rbx"); (case sa => tm_at "rsf0")))
local macro_rules | `(tactic| tm_at "rz") => `(tactic| first | with_reducible assumption | tm_at "rfr" | tm_at "rkp" | tm_at "rsm" | tm_at "rbx" | tm_at "rsf" | tm_at "rlk" | tm_at "rsq" | tm_at "rne" | omega | fail "no")
/-! texts: signs of them -/
theorem tl_len (z : Str) : z.cps.toList.length = z.length := Array.length_toList
theorem w_ixSF {K : PySem.W.Frag} {H : Hp} {Q : VK} {z : Str} {i : Int} (zl : z.length ≤ 1000) (h0 : 0 ≤ i) (h1 : i < (z.length : Int)) (k : ∀ c : Nat, z.cps.toList[i.toNat]? = some c → Q (.str ⟨#[c]⟩) H) : rIx K (.str z) (.int i) H Q := by
  obtain ⟨j, rfl⟩ := Int.eq_ofNat_of_zero_le h0
  have h2 : j < z.cps.toList.length := by rw [tl_len]; omega
  exact .inr (.inr ⟨z, j, _, rfl, rfl, sz_of (by omega), atI_nat (List.getElem?_eq_getElem h2), k _ (List.getElem?_eq_getElem h2)⟩)
def gInS : R2 := fun x y H Q => ∃ (c : Nat) (z : Str), x = .str ⟨#[c]⟩ ∧ y = .str z ∧ Q (.bl (decide (c ∈ z.cps.toList))) H
def gNotInS : R2 := fun x y H Q => ∃ (c : Nat) (z : Str), x = .str ⟨#[c]⟩ ∧ y = .str z ∧ Q (.bl (!decide (c ∈ z.cps.toList))) H
theorem w_inS {H : Hp} {Q : VK} {c : Nat} {z : Str} (k : Q (.bl (decide (c ∈ z.cps.toList))) H) : gInS (.str ⟨#[c]⟩) (.str z) H Q := ⟨c, z, rfl, rfl, k⟩
theorem w_notInS {H : Hp} {Q : VK} {c : Nat} {z : Str} (k : Q (.bl (!decide (c ∈ z.cps.toList))) H) : gNotInS (.str ⟨#[c]⟩) (.str z) H Q := ⟨c, z, rfl, rfl, k⟩
def ItsE (R : It → Hp → Prop) (v : V) (H1 : Hp) : Prop := ∃ x, v = .str x ∧ R (Its x) H1
theorem w_iS {σ : L2.St} {H : Hp} {te : TE} {R : It → Hp → Prop} (k : te σ H fun v H1 => ItsE R v H1) : iStr te σ H R := k
theorem w_iSe {H : Hp} {R : It → Hp → Prop} {z : Str} (k : R (Its z) H) : ItsE R (.str z) H := ⟨z, rfl, k⟩
theorem app_len (a b : Str) : (a ++ b).length = a.length + b.length := Array.size_append
def ChE (r' : R2) (tc : TE) (σ : L2.St) (Q : VK) (y z : V) (H3 : Hp) : Prop := ∃ k, z = .bl k ∧ (if k = true then tc σ H3 fun w' H4 => r' y w' H4 Q else Q (.bl false) H3)
theorem w_chain {r r' : R2} {ta tb tc : TE} {σ : L2.St} {H : Hp} {Q : VK} (k : ta σ H fun x H1 => tb σ H1 fun y H2 => r x y H2 fun z H3 => ChE r' tc σ Q y z H3) : tChain r r' ta tb tc σ H Q := k
theorem w_chE {r' : R2} {tc : TE} {σ : L2.St} {Q : VK} {y : V} {H3 : Hp} {p : Prop} [Decidable p] (a : p → tc σ H3 fun w' H4 => r' y w' H4 Q) (b : ¬ p → Q (.bl false) H3) : ChE r' tc σ Q y (.bl (decide p)) H3 := by
  refine ⟨_, rfl, ?_⟩
  by_cases h : p
  · rw [if_pos (decide_eq_true h)]; exact a h
  · rw [if_neg (by rw [decide_eq_false h]; decide)]; exact b h
def JoinE (K : PySem.W.Frag) (x y : V) (Q : VK) (H : Hp) : Prop := ∃ a p, ∃ ys : List Str, x = .str a ∧ [y] = [.ref p] ∧ (SqL K H p (ys.map V.str) ∨ SqT K H p (ys.map V.str)) ∧ (ys.map (·.length)).sum + ys.length * a.length ≤ 16777216 ∧ Q (.str (Txt.join a ys)) H
theorem w_join {K : PySem.W.Frag} {to te : TE} {σ : L2.St} {H : Hp} {Q : VK} (k : to σ H fun x H1 => (∃ a, x = .str a) ∧ te σ H1 fun y H2 => JoinE K x y Q H2) :
    tM1 (fun x xs H Q => ∃ a p, ∃ ys : List Str, x = .str a ∧ xs = [.ref p] ∧ (SqL K H p (ys.map V.str) ∨ SqT K H p (ys.map V.str)) ∧ (ys.map (·.length)).sum + ys.length * a.length ≤ 16777216 ∧ Q (.str (Txt.join a ys)) H) to te σ H Q := k
theorem w_isS {P : Prop} {s : Str} (k : P) : (∃ a, V.str s = .str a) ∧ P := ⟨⟨_, rfl⟩, k⟩
theorem sum_ones : ∀ ys : List Str, (∀ y ∈ ys, y.length = 1) → (ys.map (·.length)).sum = ys.length
  | [], _ => rfl
  | y :: ys, h => by
    rw [List.map_cons, List.sum_cons, List.length_cons, sum_ones ys (fun z hz => h z (List.mem_cons_of_mem _ hz)), h y List.mem_cons_self, Nat.add_comm]
theorem w_joinE {K : PySem.W.Frag} {H : Hp} {Q : VK} {p : Addr} {ys : List Str} (h : SqL K H p (ys.map V.str)) (h1 : ∀ y ∈ ys, y.length = 1) (hn : ys.length ≤ 10000) (k : Q (.str (Txt.join (Str.ofString "") ys)) H) : JoinE K (.str (Str.ofString "")) (.ref p) Q H := by
  refine ⟨_, p, ys, rfl, rfl, .inl h, ?_, k⟩
  rw [sum_ones ys h1, show (Str.ofString "").length = 0 from rfl, Nat.mul_zero]
  omega
theorem w_slS {H : Hp} {Q : VK} {z : Str} {lo hi : Option Int} (zl : z.length ≤ 10000) (k : (cutS z lo hi).length ≤ z.length → Q (.str (cutS z lo hi)) H) : rSlS (.str z) lo hi H Q := ⟨z, rfl, sz_of (by omega), k (cutS_length _ _ _)⟩
theorem sgn_len (c : Nat) : (⟨#[c]⟩ : Str).length = 1 := rfl
local macro_rules | `(tactic| tm_at "rs") => `(tactic| first | with_reducible refine w_join ?_ | with_reducible refine w_isS ?_ | ((with_reducible refine w_slS ?h (fun _ => ?_)); (case h => first | omega | (simp only [app_len, sgn_len]; omega))) | with_reducible refine w_chain ?_ | with_reducible refine w_chE (fun _ => ?_) (fun _ => ?_) | with_reducible refine w_inS ?_ | with_reducible refine w_notInS ?_ | with_reducible refine w_iS ?_ | with_reducible refine w_iSe ?_ | ((with_reducible refine w_ixSF ?h ?i ?j (fun _ _ => ?_)); (case h => first | omega | decide); (case i => omega); (case j => first | omega | decide)) | ((with_reducible refine w_lenS ?h ?_); (case h => first | (apply sz_of; omega) | exact sz_of (by decide) | (apply sz_of; simp only [app_len, sgn_len]; omega))) | ((with_reducible refine w_addS ?h ?_); (case h => first | (apply sz_of; omega) | (apply sz_of; simp only [app_len, sgn_len]; omega) | exact sz_of (by decide))) | fail "no")
/-! int(text) and str(int) beyond 640 figures, up to 4300 -/
theorem nsIn_none {K : PySem.W.Frag} {h : Heap} {a : Addr} {mc : Str → Option Value} {n : Str} (X : K.In h) (G : h.Ns a mc) (e : PySem.W.nsIn K a n = some none) : mc n = none := by
  obtain ⟨o, es, ep, ho, hd, _, hf⟩ := G
  unfold PySem.W.nsIn at e
  split at e
  · rename_i c d es' n' sl q
    have := X _ _ q
    rw [ho] at this
    cases this
    cases hd
    split at e
    · cases e
    · rename_i he
      rw [← hf]
      unfold nsFind findBy
      rw [← Array.find?_toList, he]
      rfl
  · cases e
/-- nothing has set how many figures a text may have -/
def NoDig (K : PySem.W.Frag) : Prop := PySem.W.nsIn K cStatics "sys.int_max_str_digits" = some none
theorem inv_nd {X : Cx} {pins : List (Addr × Obj)} {σ : L2.St} {H : Hp} {s : Shared} (I : Inv X pins σ H s) (z : NoDig X.K) : s.heap.NoDigits := by
  obtain ⟨mc, a, _⟩ := I.nolimit
  exact ⟨mc, a, nsIn_none I.kIn a z⟩
theorem wp_textB {M : Model} {A : Around} {E : Value → Shared → Prop} {s : Shared} {Q : Value → Shared → Prop} {v : Value} {text : List Nat} {n : Int}
    (hs : ¬ (text.takeWhile (· != 0)).length ≤ 640) (hr : (int_private% "readNumeral") 4300 10 (text.takeWhile (· != 0)) = (int_private% "Numeral.value") n)
    (ha : ((text.takeWhile (· != 0)).length == text.length) = true) (nd : s.heap.NoDigits) (h : Q (.int n s.toks) { s with toks := s.toks + 1 }) :
    wpAny M A ((int_private% "intFromText") v text 10) Q E s := by
  obtain ⟨mc, hns, hnone⟩ := nd
  have hlim : ∀ {Q : Nat → Shared → Prop}, Q 4300 s → wpAny M A Builtin.intMaxStrDigits Q E s := fun q => by
    unfold Builtin.intMaxStrDigits
    refine wpAny_bind (wpAny_nsGet hns ?_)
    rw [hnone]
    exact wpAny_pure q
  clear hns hnone
  obtain ⟨hp, g, d, tk, os⟩ := s
  repeat (any_goals (first
    | assumption
    | (with_reducible refine wpAny_ite_false (decide_eq_false hs) ?_)
    | (with_reducible refine wpAny_ite_true (decide_eq_true ha) ?_)
    | (with_reducible refine hlim ?_)
    | wp_step))
  all_goals (try rw [hr])
  all_goals (try dsimp only)
  repeat (any_goals (first
    | assumption
    | (with_reducible refine wpAny_ite_false (decide_eq_false hs) ?_)
    | (with_reducible refine wpAny_ite_true (decide_eq_true ha) ?_)
    | wp_step))
structure HidI (p : Prop) : Prop where
  out : p
theorem int_big {x : PySem.Str} {u : Tok} {n : Int} (hl : x.length ≤ sizeLine) (hb : ¬ (numSeenOf x).length ≤ 640) (hn : PySem.intText? x = some n) {M : Model} {A : Around} {E : Value → Shared → Prop} {s : Shared} {Q : Value → Shared → Prop}
    (nd : s.heap.NoDigits) (h : Q (.int n s.toks) { s with toks := s.toks + 1 }) : wpAny M A (Builtin.«int.__new__» ⟨[.type "int", .str x u], []⟩) (fun fin s' => ∃ v, fin = .done (.ret v) ∧ Q v s') E s := by
  obtain ⟨hp, g, d, tk, os⟩ := s
  have f1 := F.conv_sub_int
  have f2 := F.madeHere_int
  have f3 := PySem.W.KIN.str_int
  have f4 := PySem.W.KIN.str_idx
  have f5 := PySem.W.KIN.str_trunc
  have f6 : typeOf (.str x u) = pure (.type "str") := rfl
  have hr : (int_private% "readNumeral") 4300 10 (numSeenOf x) = (int_private% "Numeral.value") n ∧ ((numSeenOf x).length == (numTextOf x).length) = true := by
    rcases read4300 x hl with ⟨m, h1, h2, h3⟩ | ⟨h1, _⟩
    · rw [hn] at h1
      injection h1 with h1
      subst h1
      exact ⟨h3, h2⟩
    · rw [hn] at h1
      cases h1
  have hk := HidI.mk (And.intro hb (And.intro hr nd))
  clear hr hl hn hb nd
  repeat (any_goals (first
    | assumption
    | ((with_reducible show wpAny _ _ ((int_private% "intFromText") _ _ _) _ _ _); refine wp_textB hk.out.1 hk.out.2.1.1 hk.out.2.1.2 hk.out.2.2 ?_)
    | wp_step))
  all_goals first | exact ⟨_, rfl, h⟩ | skip
theorem int_few {x : PySem.Str} {u : Tok} {n : Int} (hb : (numSeenOf x).length ≤ 640) (hn : PySem.intText? x = some n) {M : Model} {A : Around} {E : Value → Shared → Prop} {s : Shared} {Q : Value → Shared → Prop}
    (h : Q (.int n s.toks) { s with toks := s.toks + 1 }) : wpAny M A (Builtin.«int.__new__» ⟨[.type "int", .str x u], []⟩) (fun fin s' => ∃ v, fin = .done (.ret v) ∧ Q v s') E s := by
  obtain ⟨hp, g, d, tk, os⟩ := s
  have f1 := F.conv_sub_int
  have f2 := F.madeHere_int
  have f3 := PySem.W.KIN.str_int
  have f4 := PySem.W.KIN.str_idx
  have f5 := PySem.W.KIN.str_trunc
  have f6 : typeOf (.str x u) = pure (.type "str") := rfl
  have hr : (int_private% "readNumeral") 0 10 (numSeenOf x) = (int_private% "Numeral.value") n ∧ ((numSeenOf x).length == (numTextOf x).length) = true := by
    rcases read0 x hb with ⟨m, h1, h2, h3⟩ | ⟨h1, _⟩
    · rw [hn] at h1
      injection h1 with h1
      subst h1
      exact ⟨h3, h2⟩
    · rw [hn] at h1
      cases h1
  have hk := HidI.mk (And.intro hb hr)
  clear hr hn hb
  repeat (any_goals (first
    | assumption
    | ((with_reducible show wpAny _ _ ((int_private% "intFromText") _ _ _) _ _ _); refine PySem.W.KIN.wp_text hk.out.1 hk.out.2.1 hk.out.2.2 ?_)
    | wp_step))
  all_goals first | exact ⟨_, rfl, h⟩ | skip
theorem call_textB {prog : Program} {w : World} {A : Around} {E : Value → Shared → Prop} {s : Shared} {x : PySem.Str} {t : Tok} {n : Int} {Q : Value → Shared → Prop} (hl : x.length ≤ sizeLine) (hn : PySem.intText? x = some n) (nd : s.heap.NoDigits)
    (h : Q (.int n s.toks) { s with toks := s.toks + 1 }) : wpAny (model prog w) A (call (.type "int") [.str x t]) Q E s := by
  by_cases hb : (numSeenOf x).length ≤ 640
  · exact call_int_1 (S := fun A R s => R (.ok (.ret (.int n s.toks))) { s with toks := s.toks + 1 }) (fun prog w A R s hq => wpAny_mono (int_few (Q := fun v s' => R (.ok (.ret v)) s') hb hn hq) (fun fin s' h' => by obtain ⟨v, rfl, hv⟩ := h'; exact hv) fun _ _ x => x) ⟨typeIs_int _ _ _, h⟩
  · exact call_int_1 (S := fun A R s => s.heap.NoDigits ∧ R (.ok (.ret (.int n s.toks))) { s with toks := s.toks + 1 }) (fun prog w A R s hq => wpAny_mono (int_big (Q := fun v s' => R (.ok (.ret v)) s') hl hb hn hq.1 hq.2) (fun fin s' h' => by obtain ⟨v, rfl, hv⟩ := h'; exact hv) fun _ _ x => x) ⟨nd, typeIs_int _ _ _, h⟩
def gIntT : List V → Hp → VK → Prop := fun xs H Q => ∃ a n, xs = [.str a] ∧ PySem.intText? a = some n ∧ a.length ≤ sizeLine ∧ Q (.int n) H
theorem w_intText {a : Str} {n : Int} {H : Hp} {Q : VK} (h : PySem.intText? a = some n) (hl : a.length ≤ sizeLine) (k : Q (.int n) H) : gIntT [.str a] H Q := ⟨a, n, rfl, h, hl, k⟩
section
variable {X : Cx}
theorem call_intText (z : NoDig X.K) : CallR X (.type "int") gIntT := by
  intro pins s σ H xs us Q I rs h
  obtain ⟨a, n, rfl, hn, hl, h⟩ := h
  cases rs with
  | cons r1 rs =>
    cases rs
    obtain ⟨t, rfl⟩ := r1
    exact call_textB hl hn (inv_nd I z) ⟨.int n, H, I.tok _, ⟨_, rfl⟩, h⟩
end
/-! int(text, 2) of noughts and ones -/
/-! figures to a number -/
/-! a walk backwards -/
def RvE (K : PySem.W.Frag) (R : It → Hp → Prop) (v : V) (H1 : Hp) : Prop := ∃ (a : Addr) (xs : List V), v = .ref a ∧ ((SqL K H1 a xs ∧ R (Itv K a xs.length) H1) ∨ (SqT K H1 a xs ∧ R (_root_.RT.ItvT K a xs.length) H1))
theorem w_iRv {K : PySem.W.Frag} {σ : L2.St} {H : Hp} {te : TE} {R : It → Hp → Prop} (k : te σ H fun v H1 => RvE K R v H1) : _root_.RT.iRevA K te σ H R := k
theorem w_rep1 {H : Hp} {Q : VK} {l : Addr} {m j : Int} (h : H l = some (.lst [.int m])) (h0 : 0 ≤ j) (h1 : j ≤ 1000) (k : ∀ p H', H p = none → Sm H H' → H' p = some (.lst ((List.replicate j.toNat m).map V.int)) → Q (.ref p) H') : gMul (.ref l) (.int j) H Q := by
  refine .inr (.inr ⟨l, j, _, rfl, rfl, h, by omega, by omega, sz_of ?_, fun p hp => k p _ hp (sm_new hp) ?_⟩)
  · show 1 * j.toNat ≤ _
    omega
  · rw [upd_same, List.map_replicate, List.flatten_replicate_singleton]
theorem w_addInts {K : PySem.W.Frag} {H : Hp} {Q : VK} {l m : Addr} {ns ms : List Int} (h1 : H l = some (.lst (ns.map V.int))) (h2 : H m = some (.lst (ms.map V.int))) (z : ns.length + ms.length ≤ 1000) (k : ∀ p H', H p = none → Sm H H' → H' p = some (.lst ((ns ++ ms).map V.int)) → Q (.ref p) H') :
    gAdd K (.ref l) (.ref m) H Q := w_addL h1 h2 (sz_of (by rw [List.length_map, List.length_map]; omega)) fun p H' a b c => k p H' a b (by rw [List.map_append]; exact c)
theorem w_ix4P {K : PySem.W.Frag} {H : Hp} {Q : VK} {i : Int} {p : Addr} {x0 x1 x2 x3 : Int} (h : SqL K H p [.int x0, .int x1, .int x2, .int x3]) (h0 : 1 ≤ i) (h1 : i < 4) (k : ∀ z : Int, z = x1 ∨ z = x2 ∨ z = x3 → Q (.int z) H) : rIx K (.ref p) (.int i) H Q := by
  rcases (show i = 1 ∨ i = 2 ∨ i = 3 by omega) with rfl | rfl | rfl
  · exact w_ixL' h (atI_nat (j := 1) rfl) (k _ (by omega))
  · exact w_ixL' h (atI_nat (j := 2) rfl) (k _ (by omega))
  · exact w_ixL' h (atI_nat (j := 3) rfl) (k _ (by omega))
theorem w_gLstL {K : PySem.W.Frag} {H : Hp} {Q : VK} {p : Addr} {ys : List V} (h : SqL K H p ys) (k : ∀ l H', H l = none → Sm H H' → H' l = some (.lst ys) → Q (.ref l) H') : gLst K [.ref p] H Q := ⟨p, ys, rfl, .inl h, fun l hl => k l _ hl (sm_new hl) upd_same⟩
theorem w_gTplL {K : PySem.W.Frag} {H : Hp} {Q : VK} {p : Addr} {ys : List V} (h : SqL K H p ys) (k : ∀ l H', H l = none → Sm H H' → H' l = some (.tup ys) → Q (.ref l) H') : gTpl K [.ref p] H Q := ⟨p, ys, rfl, .inl ⟨h, fun l hl => k l _ hl (sm_new hl) upd_same⟩⟩
theorem dp_ints {K : PySem.W.Frag} {H : Hp} : ∀ ns : List Int, DpAll K H (ns.map V.int) (ns.map PyData.int)
  | [] => .nil
  | n :: ns => .cons (.int n) (dp_ints ns)
theorem w_neInts {K : PySem.W.Frag} {H : Hp} {Q : VK} {a b : Addr} {ns : List Int} (h1 : SqL K H a (ns.map V.int)) (h2 : SqL K H b (ns.map V.int)) (k : Q (.bl false) H) : gNe K (.ref a) (.ref b) H Q := by
  refine .inr ⟨.list (ns.map .int), .list (ns.map .int), .lst h1 (dp_ints ns), .lst h2 (dp_ints ns), PySem.W.ke_shaped_ints ns, PySem.W.ke_shaped_ints ns, ?_⟩
  have e : PyData.eqv (.list (ns.map .int)) (.list (ns.map .int)) = true := by
    rw [PyData.eqv, PySem.W.ked_eqvAll]
    exact decide_eq_true rfl
  rw [e]
  exact k
local macro_rules | `(tactic| tm_at "rs") => `(tactic| first | ((with_reducible refine' w_gLstL ?h (fun _ _ _ _ _ => ?k)); (case h => tm_at "rsq")) | fail "no")
local macro_rules | `(tactic| tm_at "rs") => `(tactic| first | ((with_reducible refine' w_gTplL ?h (fun _ _ _ _ _ => ?k)); (case h => tm_at "rsq")) | fail "no")
local macro_rules | `(tactic| tm_at "rs") => `(tactic| first | ((with_reducible refine' w_neInts ?h ?i ?k); (case h => tm_at "rsq"); (case i => tm_at "rsq")) | fail "no")
local macro_rules | `(tactic| tm_at "rs") => `(tactic| first | ((with_reducible refine' w_rep1 ?h ?i ?j (fun _ _ _ _ _ => ?k)); (case h => tm_at "rlk"); (case i => omega); (case j => omega)) | fail "no")
local macro_rules | `(tactic| tm_at "rs") => `(tactic| first | ((with_reducible refine' w_addInts ?h ?i ?z (fun _ _ _ _ _ => ?k)); (case h => tm_at "rlk"); (case i => tm_at "rlk"); (case z => (simp only [List.length_append, List.length_replicate]; omega))) | fail "no")
local macro_rules | `(tactic| tm_at "rs") => `(tactic| first | ((with_reducible refine' w_ix4P ?h ?a ?b (fun _ _ => ?k)); (case h => tm_at "rsq"); (case a => omega); (case b => omega)) | fail "no")
local macro_rules | `(tactic| tm_at "rs") => `(tactic| with_reducible refine w_iRv ?_)
/-! bits of ints that are not negative -/
/-! a number's bits as a text -/
def bl : Nat → List Nat
  | 0 => []
  | n + 1 => bl ((n + 1) / 2) ++ [48 + (n + 1) % 2]
termination_by n => n
decreasing_by omega
def sg (c : Nat) : Str := ⟨#[c]⟩
theorem app_tl (a b : Str) : (a ++ b).cps.toList = a.cps.toList ++ b.cps.toList := Array.toList_append
theorem join_fold (e : Str) (he : e.cps = #[]) : ∀ (cs : List Nat) (a : Array Nat), ((cs.map sg).foldl (fun acc p => acc ++ e.cps ++ p.cps) a).toList = a.toList ++ cs
  | [], a => by simp
  | c :: cs, a => by
    rw [List.map_cons, List.foldl_cons, join_fold e he cs, he]
    simp [sg]
theorem join_sg (cs : List Nat) : (Txt.join (Str.ofString "") (cs.map sg)).cps.toList = cs := by
  cases cs with
  | nil => rfl
  | cons c cs => exact join_fold (Str.ofString "") rfl cs #[c]
/-! lists of texts -/
def RevE (K : PySem.W.Frag) (Q : VK) (x : V) (H1 : Hp) : Prop := ∃ a xs, x = .ref a ∧ SqL K H1 a xs ∧ ∀ p, H1 p = none → Q (.ref p) (upd H1 p (.lst xs.reverse))
theorem w_revL {K : PySem.W.Frag} {σ : L2.St} {H : Hp} {Q : VK} {te : TE} (k : te σ H fun x H1 => RevE K Q x H1) : tRevL K te σ H Q := k
theorem w_revE {K : PySem.W.Frag} {H : Hp} {Q : VK} {a : Addr} {xs : List V} (h : SqL K H a xs) (k : ∀ p H', H p = none → Sm H H' → H' p = some (.lst xs.reverse) → Q (.ref p) H') : RevE K Q (.ref a) H := ⟨a, xs, rfl, h, fun p hp => k p _ hp (sm_new hp) upd_same⟩
/-! x or y, x a text -/
def OrS (K : PySem.W.Frag) (tb : TE) (σ : L2.St) (Q : VK) (x : V) (H1 : Hp) : Prop := ∃ k, TruV K x H1 k ∧ if k = true then Q x H1 else tb σ H1 Q
theorem w_orT {K : PySem.W.Frag} {ta tb : TE} {σ : L2.St} {H : Hp} {Q : VK} (k : ta σ H fun x H1 => OrS K tb σ Q x H1) : tOrT K ta tb σ H Q := k
def gStrB : List V → Hp → VK → Prop := fun xs H Q => ∃ i : Int, xs = [.int i] ∧ i.natAbs.log2 < 1920 ∧ Q (.str (toString i)) H
theorem call_gStrB {X : Cx} : CallR X (.type "str") gStrB := call_str_int
/-! a nought, so often -/
local macro_rules | `(tactic| tm_at "rs") => `(tactic| first | with_reducible refine w_revL ?_ | ((with_reducible refine' w_revE ?h (fun _ _ _ _ _ => ?k)); (case h => tm_at "rsq")) | with_reducible refine w_orT ?_ | fail "no")
/-! texts of plain signs -/
def Low (z : Str) : Prop := ∀ c ∈ z.cps.toList, c < 128
theorem Low.app {a b : Str} (h : Low a) (k : Low b) : Low (a ++ b) := fun c hc => by
  rw [app_tl] at hc
  rcases List.mem_append.mp hc with hc | hc
  · exact h c hc
  · exact k c hc
/-! drawn names: a letter first, letters and figures -/
def NmC (c : Nat) : Prop := (97 ≤ c ∧ c ≤ 122) ∨ (48 ≤ c ∧ c ≤ 57)
structure WdOk (y : Str) : Prop where
  l1 : 1 ≤ y.length
  l10 : y.length ≤ 10
  hd : ∃ c l, y.cps.toList = c :: l ∧ 97 ≤ c ∧ c ≤ 122
  al : ∀ c ∈ y.cps.toList, NmC c
theorem WdOk.low {y : Str} (h : WdOk y) : Low y := fun c hc => by
  rcases h.al c hc with e | e <;> omega
def sgL : List Nat := (Str.ofString "abcdefghijklmnopqrstuvwxyz0123456789").cps.toList
theorem sgL_nd : sgL.Nodup := by decide +kernel
theorem sgL_len : sgL.length = 36 := by decide +kernel
theorem sgL_ok : ∀ c ∈ sgL, NmC c := by
  have h : sgL.all (fun c => decide ((97 ≤ c ∧ c ≤ 122) ∨ (48 ≤ c ∧ c ≤ 57))) = true := by decide +kernel
  intro c hc
  have q : (97 ≤ c ∧ c ≤ 122) ∨ (48 ≤ c ∧ c ≤ 57) := of_decide_eq_true (List.all_eq_true.mp h c hc)
  exact q
theorem sgL_let {i c : Nat} (hi : i < 26) (h : sgL[i]? = some c) : 97 ≤ c ∧ c ≤ 122 := by
  have q : ∀ i < 26, 97 ≤ sgL.getD i 0 ∧ sgL.getD i 0 ≤ 122 := by decide +kernel
  have := q i hi
  rw [List.getD_eq_getElem?_getD, h] at this
  exact this
def wdF (a u v : Str) (t : Int) (k : Nat) : Str := a ++ u ++ sg (sgL.getD ((t + 5 * (k : Int)) % 36).toNat 0) ++ v
theorem wdF_inj {a u v : Str} {t : Int} {i j : Nat} (hi : i < 36) (hj : j < 36) (h : wdF a u v t i = wdF a u v t j) : i = j := by
  have h := congrArg (fun s : Str => s.cps.toList) h
  have h : (wdF a u v t i).cps.toList = (wdF a u v t j).cps.toList := h
  unfold wdF at h
  rw [app_tl, app_tl, app_tl, app_tl, app_tl, app_tl] at h
  have h := List.append_cancel_right h
  have h := List.append_cancel_left h
  have h : [sgL.getD ((t + 5 * (i : Int)) % 36).toNat 0] = [sgL.getD ((t + 5 * (j : Int)) % 36).toNat 0] := h
  injection h with h _
  have li : ((t + 5 * (i : Int)) % 36).toNat < sgL.length := by rw [sgL_len]; omega
  have lj : ((t + 5 * (j : Int)) % 36).toNat < sgL.length := by rw [sgL_len]; omega
  rw [List.getD_eq_getElem?_getD, List.getD_eq_getElem?_getD, List.getElem?_eq_getElem li, List.getElem?_eq_getElem lj] at h
  have e := (List.getElem_inj sgL_nd).mp (show sgL[((t + 5 * (i : Int)) % 36).toNat] = sgL[((t + 5 * (j : Int)) % 36).toNat] from h)
  omega
theorem wd_ok {a u v : Str} {t : Int} {k c : Nat} (ha : a.cps.toList = [c]) (hc : 97 ≤ c ∧ c ≤ 122) (hu : ∀ x ∈ u.cps.toList, NmC x) (hv : ∀ x ∈ v.cps.toList, NmC x) (hl : u.length + v.length ≤ 8) : WdOk (wdF a u v t k) := by
  have lk : ((t + 5 * (k : Int)) % 36).toNat < sgL.length := by rw [sgL_len]; omega
  have e : (wdF a u v t k).cps.toList = c :: (u.cps.toList ++ [sgL.getD ((t + 5 * (k : Int)) % 36).toNat 0] ++ v.cps.toList) := by
    unfold wdF
    rw [app_tl, app_tl, app_tl, ha]
    show [c] ++ u.cps.toList ++ [sgL.getD ((t + 5 * (k : Int)) % 36).toNat 0] ++ v.cps.toList = _
    simp
  have el : (wdF a u v t k).length = u.length + v.length + 2 := by
    rw [← tl_len, e, ← tl_len u, ← tl_len v]
    simp only [List.length_cons, List.length_append, List.length_nil]
    omega
  refine ⟨by omega, by omega, ⟨_, _, e, hc⟩, fun x hx => ?_⟩
  rw [e] at hx
  rcases List.mem_cons.mp hx with rfl | hx
  · exact .inl hc
  rcases List.mem_append.mp hx with hx | hx
  · rcases List.mem_append.mp hx with hx | hx
    · exact hu x hx
    · rw [List.mem_singleton.mp hx, List.getD_eq_getElem?_getD, List.getElem?_eq_getElem lk]
      exact sgL_ok _ (List.getElem_mem lk)
  · exact hv x hx
theorem cut_al {z : Str} {P : Nat → Prop} (h : ∀ x ∈ z.cps.toList, P x) (lo hi : Option Int) : ∀ x ∈ (cutS z lo hi).cps.toList, P x := fun c hc => by
  refine h c ?_
  unfold cutS at hc
  have e : ∀ l : List Nat, (⟨l.toArray⟩ : Str).cps.toList = l := fun l => rfl
  rw [e] at hc
  exact List.mem_of_mem_drop (List.mem_of_mem_take hc)
theorem nodup_mapF {f : Nat → Str} {n : Nat} (h : ∀ i < n, ∀ j < n, f i = f j → i = j) : ((List.range n).map f).Nodup := by
  rw [List.Nodup, List.pairwise_map]
  exact (List.nodup_range (n := n)).imp_of_mem fun {a b} ha hb ne e => ne (h a (List.mem_range.mp ha) b (List.mem_range.mp hb) e)
theorem cut_two {z : Str} {i : Int} (h0 : 0 ≤ i) (h1 : i ≤ z.length) (hl : z.length ≤ 8) : (cutS z none (some i)).length + (cutS z (some i) none).length ≤ 8 := by
  obtain ⟨k, rfl⟩ := Int.eq_ofNat_of_zero_le h0
  rw [← tl_len, ← tl_len]
  unfold cutS
  have e : ∀ l : List Nat, (⟨l.toArray⟩ : Str).cps.toList = l := fun l => rfl
  rw [e, e, HT.sIx_none, HT.sIx_none, HT.sIx_nat, HT.sIx_nat, List.length_take, List.length_take, List.length_drop, List.length_drop]
  have := tl_len z
  omega
/-! nine, so often, as a text and as a number -/
theorem fold_rep (c : Nat) : ∀ (n : Nat) (a : Array Nat), ((List.replicate n (#[c] : Array Nat)).foldl (· ++ ·) a).toList = a.toList ++ List.replicate n c
  | 0, a => by simp
  | n + 1, a => by
    rw [List.replicate_succ, List.foldl_cons, fold_rep c n]
    rw [Array.toList_append, List.append_assoc]
    rfl
theorem mul_cps {k : Nat} (h : 2 ≤ k) (c : Nat) : (Txt.mul ⟨#[c]⟩ (k : Int)).cps.toList = List.replicate k c := by
  unfold Txt.mul
  rw [if_neg (by omega), if_neg (by
    intro e
    rcases Bool.or_eq_true_iff.mp e with e | e
    · have := (beq_iff_eq.mp e); omega
    · cases e)]
  show ((List.replicate (Int.toNat (k : Int)) (#[c] : Array Nat)).foldl (· ++ ·) #[]).toList = _
  rw [fold_rep, Int.toNat_natCast]
  rfl
/-! a number of four hundred figures, made of a text -/
theorem tos_dg {i : Int} (h0 : 0 ≤ i) (h1 : i ≤ 9) : ((toString i : String) : Str) = sg (48 + i.toNat) := by
  have h : i = 0 ∨ i = 1 ∨ i = 2 ∨ i = 3 ∨ i = 4 ∨ i = 5 ∨ i = 6 ∨ i = 7 ∨ i = 8 ∨ i = 9 := by omega
  rcases h with rfl | rfl | rfl | rfl | rfl | rfl | rfl | rfl | rfl | rfl <;> rfl
theorem w_strD {i : Int} {H : Hp} {Q : VK} (h0 : 0 ≤ i) (h1 : i ≤ 9) (k : Q (.str (sg (48 + i.toNat))) H) : gStrB [.int i] H Q := by
  refine ⟨i, rfl, ?_, by rw [tos_dg h0 h1]; exact k⟩
  have h : i = 0 ∨ i = 1 ∨ i = 2 ∨ i = 3 ∨ i = 4 ∨ i = 5 ∨ i = 6 ∨ i = 7 ∨ i = 8 ∨ i = 9 := by omega
  rcases h with rfl | rfl | rfl | rfl | rfl | rfl | rfl | rfl | rfl | rfl <;> decide +kernel
theorem dg_ltR : ∀ r : List Nat, (∀ c ∈ r, 48 ≤ c ∧ c ≤ 57) → digitsVal r.reverse < 10 ^ r.length
  | [], _ => by decide
  | c :: r, h => by
    have h1 := dg_ltR r fun x hx => h x (List.mem_cons_of_mem _ hx)
    have h2 := h c List.mem_cons_self
    rw [List.reverse_cons, digitsVal_snoc, List.length_cons, Nat.pow_succ]
    omega
theorem dg_lt (l : List Nat) (h : ∀ c ∈ l, 48 ≤ c ∧ c ≤ 57) : digitsVal l < 10 ^ l.length := by
  have := dg_ltR l.reverse fun c hc => h c (List.mem_reverse.mp hc)
  rw [List.reverse_reverse, List.length_reverse] at this
  exact this
theorem great_text {a b : Nat} (ha : a ≤ 9) (hb : b ≤ 9) : ∃ n : Nat, PySem.intText? (sg (48 + a) ++ Txt.mul (sg (48 + b)) 399) = some (n : Int) ∧ n < 10 ^ 400 ∧ (sg (48 + a) ++ Txt.mul (sg (48 + b)) 399).length = 400 := by
  have e : (Txt.mul (sg (48 + b)) ((399 : Nat) : Int)).cps.toList = List.replicate 399 (48 + b) := mul_cps (by decide) (48 + b)
  have e2 : (sg (48 + a) ++ Txt.mul (sg (48 + b)) 399).cps.toList = (48 + a) :: List.replicate 399 (48 + b) := by
    rw [app_tl]
    show [48 + a] ++ _ = _
    rw [show (Txt.mul (sg (48 + b)) 399).cps.toList = List.replicate 399 (48 + b) from e]
    rfl
  have el : (sg (48 + a) ++ Txt.mul (sg (48 + b)) 399).length = 400 := by
    rw [← tl_len, e2, List.length_cons, List.length_replicate]
  have dg : ∀ c ∈ (48 + a) :: List.replicate 399 (48 + b), 48 ≤ c ∧ c ≤ 57 := fun c hc => by
    rcases List.mem_cons.mp hc with rfl | hc
    · omega
    · rw [List.eq_of_mem_replicate hc]; omega
  refine ⟨digitsVal ((48 + a) :: List.replicate 399 (48 + b)), ?_, ?_, el⟩
  · rw [← e2]
    exact intText_digits (fun c hc => by rw [e2] at hc; exact dg c hc) (by rw [e2]; exact List.cons_ne_nil _ _) (by omega)
  · have := dg_lt _ dg
    rw [List.length_cons, List.length_replicate] at this
    exact this
theorem great_ok (b : Nat) : MulOk (sg (48 + b)) 399 := by
  have h : MulOk (sg 48) 399 := ⟨by decide, by decide, by decide⟩
  exact h
/-! tuples stay as they are -/
def Tk (H H' : Hp) : Prop := ∀ p xs, H p = some (.tup xs) → H' p = some (.tup xs)
theorem Tk.refl (H : Hp) : Tk H H := fun _ _ h => h
theorem Tk.trans {H H1 H2 : Hp} (a : Tk H H1) (b : Tk H1 H2) : Tk H H2 := fun p xs h => b p xs (a p xs h)
theorem Tk.sm {H H' : Hp} (e : Sm H H') : Tk H H' := fun _ _ h => e _ _ h
theorem Tk.kp {H H' : Hp} {b : Addr} {ys : List V} (hb : H b = some (.lst ys)) (e : Kp b H H') : Tk H H' := fun p xs q => e _ _ (by
  intro z
  rw [z, hb] at q
  cases q) q
theorem Tk.kd {H H' : Hp} {b : Addr} {ys : List (Key × V)} (hb : H b = some (.dK ys)) (e : Kp b H H') : Tk H H' := fun p xs q => e _ _ (by
  intro z
  rw [z, hb] at q
  cases q) q
theorem Tk.ki {H H' : Hp} {b C dx : Addr} {ys : List (Str × V)} (hb : H b = some (.ins C dx ys)) (e : Kp b H H') : Tk H H' := fun p xs q => e _ _ (by
  intro z
  rw [z, hb] at q
  cases q) q
theorem Tk.kb {H H' : Hp} {b : Addr} (hb : BoxAt H b) (e : Kp b H H') : Tk H H' := by
  obtain ⟨x, s, hb, _⟩ := hb
  exact Tk.kp hb e
theorem Tk.kn {H H' : Hp} {b : Addr} (hb : H b = none) (e : Kp b H H') : Tk H H' := fun p xs q => e _ _ (ne_of_none q hb) q
local macro_rules | `(tactic| tm_at "rtk") => `(tactic| first | with_reducible assumption | exact Tk.refl _ | tm_at "rtk1" | ((refine' Tk.trans ?sa ?sb); (case sb => tm_at "rtk1"); (case sa => tm_at "rtk")) | fail "no")
local macro_rules | `(tactic| tm_at "rtk1") => `(tactic| first | exact Tk.sm (by with_reducible assumption) | ((refine' Tk.kb ?sa ?sb); (case sb => with_reducible assumption); (case sa => tm_at "rbx")) | ((refine' Tk.kp ?sa ?sb); (case sb => with_reducible assumption); (case sa => tm_at "rlk")) | ((refine' Tk.kd ?sa ?sb); (case sb => with_reducible assumption); (case sa => tm_at "rlk")) | ((refine' Tk.ki ?sa ?sb); (case sb => with_reducible assumption); (case sa => tm_at "rlk")) | ((refine' Tk.kn ?sa ?sb); (case sb => with_reducible assumption); (case sa => tm_at "rfr")) | with_reducible assumption | fail "no")
/-- a tuple, told ahead -/
theorem tk_lk {H H' : Hp} {p : Addr} {xs : List V} (h : H p = some (.tup xs)) (e : Tk H H') : H' p = some (.tup xs) := e _ _ h
local macro_rules | `(tactic| tm_at "rlk0") => `(tactic| first | ((refine' tk_lk ?sb ?sa); (case sa => with_reducible assumption); (case sb => tm_at "rlk0")) | fail "no")
/-! what stands in nested tuples -/
mutual
def TpD (H : Hp) : PyData → V → Prop
  | .tuple ds, v => ∃ p xs, v = .ref p ∧ H p = some (.tup xs) ∧ TpL H ds xs
  | .int i, v => v = .int i
  | .str s, v => v = .str s
  | .bool b, v => v = .bl b
  | .none, v => v = .non
  | .list _, _ => False
  | .dict _, _ => False
def TpL (H : Hp) : List PyData → List V → Prop
  | [], xs => xs = []
  | d :: ds, xs => ∃ v vs, xs = v :: vs ∧ TpD H d v ∧ TpL H ds vs
end
mutual
theorem TpD.tk {H H' : Hp} (e : Tk H H') : ∀ (d : PyData) (v : V), TpD H d v → TpD H' d v
  | .tuple ds, v, h => by
    unfold TpD at h ⊢
    obtain ⟨p, xs, rfl, q, r⟩ := h
    exact ⟨p, xs, rfl, e _ _ q, TpL.tk e ds xs r⟩
  | .int i, v, h => by unfold TpD at h ⊢; exact h
  | .str s, v, h => by unfold TpD at h ⊢; exact h
  | .bool b, v, h => by unfold TpD at h ⊢; exact h
  | .none, v, h => by unfold TpD at h ⊢; exact h
  | .list _, v, h => by unfold TpD at h; exact h.elim
  | .dict _, v, h => by unfold TpD at h; exact h.elim
theorem TpL.tk {H H' : Hp} (e : Tk H H') : ∀ (ds : List PyData) (xs : List V), TpL H ds xs → TpL H' ds xs
  | [], xs, h => by unfold TpL at h ⊢; exact h
  | d :: ds, xs, h => by
    unfold TpL at h ⊢
    obtain ⟨v, vs, rfl, q, r⟩ := h
    exact ⟨v, vs, rfl, TpD.tk e d v q, TpL.tk e ds vs r⟩
end
mutual
theorem TpD.dp {K : PySem.W.Frag} {H : Hp} : ∀ (d : PyData) (v : V), TpD H d v → Dp K H v d
  | .tuple ds, v, h => by
    unfold TpD at h
    obtain ⟨p, xs, rfl, q, r⟩ := h
    exact .tup (st_of q) (TpL.dp ds xs r)
  | .int i, v, h => by unfold TpD at h; subst h; exact .int _
  | .str s, v, h => by unfold TpD at h; subst h; exact .str _
  | .bool b, v, h => by unfold TpD at h; subst h; exact .bl _
  | .none, v, h => by unfold TpD at h; subst h; exact .non
  | .list _, v, h => by unfold TpD at h; exact h.elim
  | .dict _, v, h => by unfold TpD at h; exact h.elim
theorem TpL.dp {K : PySem.W.Frag} {H : Hp} : ∀ (ds : List PyData) (xs : List V), TpL H ds xs → DpAll K H xs ds
  | [], xs, h => by unfold TpL at h; subst h; exact .nil
  | d :: ds, xs, h => by
    unfold TpL at h
    obtain ⟨v, vs, rfl, q, r⟩ := h
    exact .cons (TpD.dp d v q) (TpL.dp ds vs r)
end
theorem tpd_t {H : Hp} {p : Addr} {xs : List V} {ds : List PyData} (h : H p = some (.tup xs)) (k : TpL H ds xs) : TpD H (.tuple ds) (.ref p) := by
  unfold TpD
  exact ⟨p, xs, rfl, h, k⟩
theorem tpd_i {H : Hp} {i : Int} : TpD H (.int i) (.int i) := by
  unfold TpD
  rfl
theorem tpd_s {H : Hp} {s : Str} : TpD H (.str s) (.str s) := by
  unfold TpD
  rfl
theorem tpl_nil {H : Hp} : TpL H [] [] := by
  unfold TpL
  rfl
theorem tpl_cons {H : Hp} {d : PyData} {ds : List PyData} {v : V} {vs : List V} (h : TpD H d v) (k : TpL H ds vs) : TpL H (d :: ds) (v :: vs) := by
  unfold TpL
  exact ⟨v, vs, rfl, h, k⟩
def nV (l : List Nat) : List V := l.map fun t => V.int (t : Nat)
def nD (l : List Nat) : List PyData := l.map fun t => PyData.int (t : Nat)
theorem tpl_nat {H : Hp} : ∀ l : List Nat, TpL H (nD l) (nV l)
  | [] => tpl_nil
  | x :: l => tpl_cons tpd_i (tpl_nat l)
theorem nV_len (l : List Nat) : (nV l).length = l.length := List.length_map _
theorem nV_app (l m : List Nat) : nV (l ++ m) = nV l ++ nV m := List.map_append
theorem paired_last {α β : Type} {R : α → β → Prop} : ∀ {l : List α} {m : List β} {y : β}, Paired R l (m ++ [y]) → ∃ l' x, l = l' ++ [x] ∧ Paired R l' m ∧ R x y
  | _, [], _, .cons h .nil => ⟨[], _, rfl, .nil, h⟩
  | _, _ :: m, _, .cons h r => by
    obtain ⟨l', x, rfl, r1, r2⟩ := paired_last r
    exact ⟨_ :: l', x, rfl, .cons h r1, r2⟩
theorem paired_app {α β : Type} {R : α → β → Prop} : ∀ {l : List α} {m : List β} {l' : List α} {m' : List β}, Paired R l m → Paired R l' m' → Paired R (l ++ l') (m ++ m')
  | _, _, _, _, .nil, h => h
  | _, _, _, _, .cons a b, h => .cons a (paired_app b h)
theorem paired_mono {α β : Type} {F G : α → β → Prop} (h : ∀ p q, F p q → G p q) : ∀ {l : List α} {k : List β}, Paired F l k → Paired G l k
  | _, _, .nil => .nil
  | _, _, .cons a b => .cons (h _ _ a) (paired_mono h b)
theorem paired_len {α β : Type} {R : α → β → Prop} : ∀ {l : List α} {m : List β}, Paired R l m → l.length = m.length
  | _, _, .nil => rfl
  | _, _, .cons _ b => by rw [List.length_cons, List.length_cons, paired_len b]
theorem paired_get {α β : Type} {R : α → β → Prop} : ∀ {l : List α} {m : List β} {i : Nat} {x : α}, Paired R l m → l[i]? = some x → ∃ y, m[i]? = some y ∧ R x y
  | _, _, 0, _, .cons a b, h => ⟨_, rfl, by cases h; exact a⟩
  | _, _, i + 1, _, .cons a b, h => paired_get (i := i) b h
  | _, _, _, _, .nil, h => by cases h
theorem paired_getR {α β : Type} {R : α → β → Prop} : ∀ {l : List α} {m : List β} {i : Nat} {y : β}, Paired R l m → m[i]? = some y → ∃ x, l[i]? = some x ∧ R x y
  | _, _, 0, _, .cons a b, h => ⟨_, rfl, by cases h; exact a⟩
  | _, _, i + 1, _, .cons a b, h => paired_getR (i := i) b h
  | _, _, _, _, .nil, h => by cases h
/-- one of a list -/
theorem w_ixP {K : PySem.W.Frag} {H : Hp} {Q : VK} {p : Addr} {xs : List V} {i : Int} (P : V → Prop) (h : SqL K H p xs ∨ SqT K H p xs) (h0 : 0 ≤ i) (h1 : i < (xs.length : Int)) (hx : ∀ x ∈ xs, P x) (k : ∀ x, P x → Q x H) : rIx K (.ref p) (.int i) H Q := by
  obtain ⟨j, rfl⟩ := Int.eq_ofNat_of_zero_le h0
  have hj : j < xs.length := by omega
  have e := List.getElem?_eq_getElem hj
  rcases h with h | h
  · exact w_ixL' h (atI_nat e) (k _ (hx _ (List.getElem_mem hj)))
  · exact w_ixT h (atI_nat e) (k _ (hx _ (List.getElem_mem hj)))
theorem all2 {P : V → Prop} {x y : V} (hx : P x) (hy : P y) : ∀ z ∈ [x, y], P z := fun z hz => by
  rcases List.mem_cons.mp hz with rfl | hz
  · exact hx
  · rw [List.mem_singleton.mp hz]
    exact hy
/-! a tuple that stands, or one of the module's own -/
def TpK (K : PySem.W.Frag) (H : Hp) (p : Addr) (xs : List V) : Prop := H p = some (.tup xs) ∨ ∀ H' : Hp, SqT K H' p xs
theorem TpK.imp {K : PySem.W.Frag} {H H' : Hp} {p : Addr} {xs : List V} (h : TpK K H p xs) (e : Tk H H') : TpK K H' p xs := h.elim (fun h => .inl (e _ _ h)) .inr
theorem TpK.sq {K : PySem.W.Frag} {H : Hp} {p : Addr} {xs : List V} (h : TpK K H p xs) : SqT K H p xs := h.elim st_of fun h => h H
theorem TpK.of {K : PySem.W.Frag} {H : Hp} {p : Addr} {xs : List V} (h : H p = some (.tup xs)) : TpK K H p xs := .inl h
local macro_rules | `(tactic| tm_at "rtp") => `(tactic| first | with_reducible assumption | exact TpK.of (by with_reducible assumption) | ((refine' TpK.imp ?sa ?sb); (case sa => with_reducible assumption); (case sb => tm_at "rtk")) | fail "no")
local macro_rules | `(tactic| tm_at "rst") => `(tactic| first | with_reducible assumption | ((refine' st_of ?sz); (case sz => tm_at "rlk")) | ((refine' TpK.sq ?sz); (case sz => tm_at "rtp")) | fail "no")
/-! terms: nested pairs and triples -/
inductive Tm where
  | num (n : Nat)
  | name (s : Str)
  | op (w : Str) (a b : Tm)
def Tm.dep : Tm → Nat
  | .num _ => 0
  | .name _ => 0
  | .op _ a b => max a.dep b.dep + 1
def Tm.wt : Tm → Nat
  | .num _ => 1
  | .name _ => 1
  | .op _ a b => a.wt + b.wt + 2
theorem Tm.wt_pos : ∀ t : Tm, 1 ≤ t.wt
  | .num _ => Nat.le_refl _
  | .name _ => Nat.le_refl _
  | .op _ a b => by
    show 1 ≤ a.wt + b.wt + 2
    omega
def TmAt (K : PySem.W.Frag) (H : Hp) : Tm → V → Prop
  | .num n, v => ∃ p, v = .ref p ∧ TpK K H p [.str "num", .int (n : Int)]
  | .name s, v => ∃ p, v = .ref p ∧ TpK K H p [.str "name", .str s]
  | .op w a b, v => ∃ p x y, v = .ref p ∧ TpK K H p [.str w, x, y] ∧ TmAt K H a x ∧ TmAt K H b y
theorem TmAt.imp {K : PySem.W.Frag} {H H' : Hp} (h : Tk H H') : ∀ {t : Tm} {v : V}, TmAt K H t v → TmAt K H' t v
  | .num n, v, ⟨p, e, q⟩ => ⟨p, e, q.imp h⟩
  | .name s, v, ⟨p, e, q⟩ => ⟨p, e, q.imp h⟩
  | .op w a b, v, ⟨p, x, y, e, q, r1, r2⟩ => ⟨p, x, y, e, q.imp h, TmAt.imp h r1, TmAt.imp h r2⟩
theorem TmAt.tk {K : PySem.W.Frag} {H H' : Hp} {t : Tm} {v : V} (r : TmAt K H t v) (e : Tk H H') : TmAt K H' t v := r.imp e
theorem TmAt.sm {K : PySem.W.Frag} {H H' : Hp} {t : Tm} {v : V} (r : TmAt K H t v) (e : Sm H H') : TmAt K H' t v := r.imp (Tk.sm e)
theorem TmAt.kpL {K : PySem.W.Frag} {H H' : Hp} {t : Tm} {v : V} {b : Addr} {ys : List V} (r : TmAt K H t v) (hb : H b = some (.lst ys)) (e : Kp b H H') : TmAt K H' t v := r.imp (Tk.kp hb e)
theorem TmAt.kpD {K : PySem.W.Frag} {H H' : Hp} {t : Tm} {v : V} {b : Addr} {ys : List (Key × V)} (r : TmAt K H t v) (hb : H b = some (.dK ys)) (e : Kp b H H') : TmAt K H' t v := r.imp (Tk.kd hb e)
theorem tm_num {K : PySem.W.Frag} {H : Hp} {p : Addr} {n : Nat} (h : H p = some (.tup [.str "num", .int (n : Int)])) : TmAt K H (.num n) (.ref p) := ⟨p, rfl, .inl h⟩
theorem tm_name {K : PySem.W.Frag} {H : Hp} {p : Addr} {s : Str} (h : H p = some (.tup [.str "name", .str s])) : TmAt K H (.name s) (.ref p) := ⟨p, rfl, .inl h⟩
theorem tm_op {K : PySem.W.Frag} {H : Hp} {p : Addr} {w : Str} {x y : V} {a b : Tm} (h : H p = some (.tup [.str w, x, y])) (ha : TmAt K H a x) (hb : TmAt K H b y) : TmAt K H (.op w a b) (.ref p) := ⟨p, x, y, rfl, .inl h, ha, hb⟩
/-! fields of an own object -/
def FldE (K : PySem.W.Frag) (f : Str) (Q : VK) (x : V) (H1 : Hp) : Prop := ∃ (a C dx : Addr) (fs : List (Str × V)) (v : V), x = .ref a ∧ H1 a = some (.ins C dx fs) ∧ Cls K C ∧ NoAttr K C f ∧ fs.lookup f = some v ∧ Q v H1
theorem w_fld {K : PySem.W.Frag} {f : Str} {σ : L2.St} {H : Hp} {Q : VK} {ta : TE} (k : ta σ H fun x H1 => FldE K f Q x H1) : tFld K ta f σ H Q := k
def SFldE (K : PySem.W.Frag) (f : Str) (D : Ends) (σ : L2.St) (x y : V) (H2 : Hp) : Prop := ∃ (a C dx : Addr) (fs : List (Str × V)), x = .ref a ∧ H2 a = some (.ins C dx fs) ∧ Cls K C ∧ NoAttr K C f ∧ fs.length < 1000 ∧ D.nx σ (upd H2 a (.ins C dx (putF f y fs)))
theorem w_sfld {K : PySem.W.Frag} {f : Str} {D : Ends} {σ : L2.St} {H : Hp} {ta tv : TE} (k : tv σ H fun y H1 => ta σ H1 fun x H2 => SFldE K f D σ x y H2) : sFld K ta tv f D σ H := k
/-! a dict's items -/
def DgE (Q : VK) (x y : V) (H2 : Hp) : Prop := ∃ a v, x = .ref a ∧ DGet H2 a y (some v) ∧ Q v H2
theorem w_dg {td ty : TE} {σ : L2.St} {H : Hp} {Q : VK} (k : td σ H fun x H1 => ty σ H1 fun y H2 => DgE Q x y H2) : tDGet td ty σ H Q := k
theorem w_dge {H : Hp} {Q : VK} {a : Addr} {s : Str} {v : V} {kvs : List (Key × V)} (h : H a = some (.dK kvs)) (e : valV kvs (.inr s) = some v) (k : Q v H) : DgE Q (.ref a) (.str s) H := ⟨a, v, rfl, .inl ⟨kvs, .inr s, .inl h, rfl, e.symm⟩, k⟩
def DpE (D : Ends) (σ : L2.St) (v x y : V) (H3 : Hp) : Prop := ∃ a H4, x = .ref a ∧ DPut H3 a y v H4 ∧ D.nx σ H4
theorem w_dp {td ty tv : TE} {D : Ends} {σ : L2.St} {H : Hp} (k : tv σ H fun v H1 => td σ H1 fun x H2 => ty σ H2 fun y H3 => DpE D σ v x y H3) : sDPut td ty tv D σ H := k
theorem w_dpe {D : Ends} {σ : L2.St} {H : Hp} {a : Addr} {s : Str} {v : V} {kvs : List (Key × V)} (h : H a = some (.dK kvs)) (l : kvs.length < sizeLine) (k : ∀ H', Kp a H H' → H' a = some (.dK (putK kvs (.inr s) v)) → NX D σ H') : DpE D σ v (.ref a) (.str s) H :=
  ⟨a, _, rfl, .inl ⟨kvs, .inr s, h, rfl, l, rfl⟩, k _ kp_upd upd_same⟩
theorem w_dnew {σ : L2.St} {H : Hp} {Q : VK} (k : ∀ p H', H p = none → Sm H H' → H' p = some (.dK []) → Q (.ref p) H') : tDNewK σ H Q := fun p hp => k p _ hp (sm_new hp) upd_same
def NiE (K : PySem.W.Frag) (w : World) (Q : VK) (y x : V) (H2 : Hp) : Prop := ∃ a z v, x = .ref a ∧ y = .str z ∧ (a == sysModules) = false ∧ KDct K w a z v ∧ Q (.bl false) H2
theorem w_ni {K : PySem.W.Frag} {w : World} {ty td : TE} {σ : L2.St} {H : Hp} {Q : VK} (k : ty σ H fun y H1 => td σ H1 fun x H2 => NiE K w Q y x H2) : tNiK K w ty td σ H Q := k
/-! an own object made -/
def MkE (C : Addr) (sp : Sp) (Q : VK) (E : XK) (vs : List V) (H1 : Hp) : Prop := ∀ x dx, H1 x = none → H1 dx = none → dx ≠ x → sp (.ref x :: (vs ++ [])) (upd (upd H1 dx (.own x)) x (.ins C dx [])) (fun v H2 => v = .non ∧ Q (.ref x) H2) E
theorem w_make {C : Addr} {sp : Sp} {σ : L2.St} {H : Hp} {Q : VK} {E : XK} {t : TA} (k : t σ H fun vs H1 => MkE C sp Q E vs H1) : tMake C sp [] E t σ H Q := k
/-! the last of a list taken, lists made longer -/
theorem w_bm0 {K : PySem.W.Frag} {T : String} {r : V → List V → Hp → VK → Prop} {to : TE} {σ : L2.St} {H : Hp} {Q : VK} (k : to σ H fun x H1 => tyV K T x H1 ∧ r x [] H1 Q) : tBM0 K T r to σ H Q := k
theorem w_pop {K : PySem.W.Frag} {H : Hp} {Q : VK} {l : Addr} {xs : List V} {y : V} (h : H l = some (.lst (xs ++ [y]))) (k : ∀ H', Kp l H H' → H' l = some (.lst xs) → Q y H') : tyV K "list" (.ref l) H ∧ rPop (.ref l) [] H Q := by
  refine ⟨ty_list h, l, _, y, rfl, rfl, h, ?_, k _ kp_upd ?_⟩
  · rw [List.length_append, List.getElem?_append_right (by show xs.length ≤ xs.length + 1 - 1; omega)]
    show [y][xs.length + 1 - 1 - xs.length]? = some y
    rw [show xs.length + 1 - 1 - xs.length = 0 by omega]
    rfl
  · rw [upd_same, List.dropLast_concat]
theorem w_ext {H : Hp} {Q : VK} {l b : Addr} {xs zs : List V} (h : H l = some (.lst xs)) (hb : H b = some (.lst zs)) (z : xs.length + zs.length ≤ sizeLine) (k : ∀ H', Kp l H H' → H' l = some (.lst (xs ++ zs)) → Q .non H') : rExtend (.ref l) [.ref b] H Q :=
  ⟨l, b, xs, zs, rfl, rfl, h, hb, z, k _ kp_upd upd_same⟩
local macro_rules | `(tactic| tm_at "rs") => `(tactic| first | with_reducible refine w_fld ?_ | with_reducible refine w_sfld ?_ | with_reducible refine w_dg ?_ | ((with_reducible refine' w_dge ?h ?e ?k); (case h => tm_at "rlk"); (case e => assumption)) | with_reducible refine w_dp ?_ | ((with_reducible refine' w_dpe ?h ?l (fun _ _ _ => ?k)); (case h => tm_at "rlk"); (case l => tm_at "rsz")) | with_reducible refine w_dnew (fun _ _ _ _ _ => ?_) | with_reducible refine w_ni ?_ | with_reducible refine w_make ?_ | with_reducible refine w_bm0 ?_ | ((with_reducible refine' w_pop ?h (fun _ _ _ => ?k)); (case h => tm_at "rlk")) | ((with_reducible refine' w_ext ?h ?i ?z (fun _ _ _ => ?k)); (case h => tm_at "rlk"); (case i => tm_at "rlk"); (case z => tm_at "rsz")) | fail "no")
theorem TmAt.kpB {K : PySem.W.Frag} {H H' : Hp} {t : Tm} {v : V} {b : Addr} (r : TmAt K H t v) (hb : BoxAt H b) (e : Kp b H H') : TmAt K H' t v := by
  obtain ⟨x, s, hb, _⟩ := hb
  exact r.kpL hb e
theorem w_ixStrs {K : PySem.W.Frag} {H : Hp} {Q : VK} {p : Addr} {ys : List Str} {i : Int} (h : SqL K H p (ys.map V.str)) (i0 : 0 ≤ i) (i1 : i < (ys.length : Int)) (k : ∀ s ∈ ys, Q (.str s) H) : rIx K (.ref p) (.int i) H Q := by
  obtain ⟨j, rfl⟩ := Int.eq_ofNat_of_zero_le i0
  have hj : j < ys.length := by omega
  exact w_ixL h (atI_nat (j := j) (by rw [List.getElem?_map, List.getElem?_eq_getElem hj]; rfl)) (k _ (List.getElem_mem hj))
local macro_rules | `(tactic| tm_at "rtm") => `(tactic| first | with_reducible assumption | ((refine' TmAt.sm ?sa ?sb); (case sb => with_reducible assumption); (case sa => tm_at "rtm")) | ((refine' TmAt.kpB ?sa ?sc ?sb); (case sb => with_reducible assumption); (case sc => tm_at "rbx"); (case sa => tm_at "rtm")) | ((refine' TmAt.kpL ?sa ?sc ?sb); (case sb => with_reducible assumption); (case sc => tm_at "rlk"); (case sa => tm_at "rtm")) | ((refine' TmAt.kpD ?sa ?sc ?sb); (case sb => with_reducible assumption); (case sc => tm_at "rlk"); (case sa => tm_at "rtm")) | fail "no")
/-! sayings: a word, two sides -/
def SayC (K : PySem.W.Frag) (C : Addr) : Prop := ClsN K "Saying" C ["word", "left", "right"]
def SayAt (K : PySem.W.Frag) (H : Hp) (v : V) (w : Str) (l r : V) : Prop := ∃ p C dx, v = .ref p ∧ SayC K C ∧ H p = some (.ins C dx [("word", .str w), ("left", l), ("right", r)])
theorem SayAt.sm {K : PySem.W.Frag} {H H' : Hp} {v l r : V} {w : Str} (h : SayAt K H v w l r) (e : Sm H H') : SayAt K H' v w l r := by
  obtain ⟨p, C, dx, rfl, c, q⟩ := h
  exact ⟨p, C, dx, rfl, c, e _ _ q⟩
theorem SayAt.kpL {K : PySem.W.Frag} {H H' : Hp} {v l r : V} {w : Str} {b : Addr} {ys : List V} (h : SayAt K H v w l r) (hb : H b = some (.lst ys)) (e : Kp b H H') : SayAt K H' v w l r := by
  obtain ⟨p, C, dx, rfl, c, q⟩ := h
  exact ⟨p, C, dx, rfl, c, e _ _ (by intro z; rw [z, hb] at q; cases q) q⟩
theorem w_fWord {K : PySem.W.Frag} {H : Hp} {Q : VK} {v l r : V} {w : Str} (h : SayAt K H v w l r) (k : Q (.str w) H) : FldE K "word" Q v H := by
  obtain ⟨p, C, dx, rfl, c, q⟩ := h
  exact ⟨p, C, dx, _, _, rfl, q, c.cl, c.na _ (by simp), rfl, k⟩
theorem w_fLeft {K : PySem.W.Frag} {H : Hp} {Q : VK} {v l r : V} {w : Str} (h : SayAt K H v w l r) (k : Q l H) : FldE K "left" Q v H := by
  obtain ⟨p, C, dx, rfl, c, q⟩ := h
  exact ⟨p, C, dx, _, _, rfl, q, c.cl, c.na _ (by simp), rfl, k⟩
theorem w_fRight {K : PySem.W.Frag} {H : Hp} {Q : VK} {v l r : V} {w : Str} (h : SayAt K H v w l r) (k : Q r H) : FldE K "right" Q v H := by
  obtain ⟨p, C, dx, rfl, c, q⟩ := h
  exact ⟨p, C, dx, _, _, rfl, q, c.cl, c.na _ (by simp), rfl, k⟩
local macro_rules | `(tactic| tm_at "rsay") => `(tactic| first | with_reducible assumption | ((refine' SayAt.sm ?sa ?sb); (case sb => with_reducible assumption); (case sa => tm_at "rsay")) | fail "no")
local macro_rules | `(tactic| tm_at "rs") => `(tactic| first | ((with_reducible refine' w_fWord ?h ?k); (case h => tm_at "rsay")) | ((with_reducible refine' w_fLeft ?h ?k); (case h => tm_at "rsay")) | ((with_reducible refine' w_fRight ?h ?k); (case h => tm_at "rsay")) | fail "no")
/-! a stack of terms to be worked off, the top first -/
/-- what lies on the stack, the top last -/
def StAt (K : PySem.W.Frag) (H : Hp) (q : V) (s : Tm × Bool) : Prop := ∃ p x, q = .ref p ∧ H p = some (.tup [x, .bl s.2]) ∧ TmAt K H s.1 x
theorem StAt.imp {K : PySem.W.Frag} {H H' : Hp} {q : V} {s : Tm × Bool} (h : ∀ p xs, H p = some (.tup xs) → H' p = some (.tup xs)) (r : StAt K H q s) : StAt K H' q s := by
  obtain ⟨p, x, e, k, t⟩ := r
  exact ⟨p, x, e, h _ _ k, t.imp h⟩
theorem tup_kpL {H H' : Hp} {b : Addr} {ys : List V} (hb : H b = some (.lst ys)) (e : Kp b H H') : ∀ p xs, H p = some (.tup xs) → H' p = some (.tup xs) := fun p xs q => e _ _ (by
  intro z
  rw [z, hb] at q
  cases q) q
theorem tup_sm {H H' : Hp} (e : Sm H H') : ∀ p xs, H p = some (.tup xs) → H' p = some (.tup xs) := fun p xs q => e _ _ q
/-! enumerate over a text -/
def ItSE (x : Str) : It :=
  ⟨fun i _ => i < x.cps.size, fun i H v H' => ∃ T c, v = .ref T ∧ H T = none ∧ H' = upd H T (.tup [.int (i : Nat), .str ⟨#[c]⟩]) ∧ x.cps[i]? = some c, fun i _ => x.cps.size = i⟩
def iSE (ta : TA) : TI := fun σ H R => ta σ H fun vs H1 => ∃ x, vs = [.str x] ∧ R (ItSE x) H1
def SEe (R : It → Hp → Prop) (vs : List V) (H1 : Hp) : Prop := ∃ x, vs = [.str x] ∧ R (ItSE x) H1
theorem w_iSE {σ : L2.St} {H : Hp} {ta : TA} {R : It → Hp → Prop} (k : ta σ H fun vs H1 => SEe R vs H1) : iSE ta σ H R := k
theorem w_iSEe {H : Hp} {R : It → Hp → Prop} {x : Str} (k : R (ItSE x) H) : SEe R [.str x] H := ⟨x, rfl, k⟩
local macro_rules | `(tactic| tm_at "rs") => `(tactic| first | with_reducible refine w_iSE ?_ | with_reducible refine w_iSEe ?_ | fail "no")
/-! enumerate over a list -/
def EnE (K : PySem.W.Frag) (R : It → Hp → Prop) (vs : List V) (H1 : Hp) : Prop := ∃ a xs, vs = [.ref a] ∧ SqL K H1 a xs ∧ R (Ite K a) H1
theorem w_iEn {K : PySem.W.Frag} {σ : L2.St} {H : Hp} {ta : TA} {R : It → Hp → Prop} (k : ta σ H fun vs H1 => EnE K R vs H1) : iEnum K ta σ H R := k
theorem w_iEne {K : PySem.W.Frag} {H : Hp} {R : It → Hp → Prop} {a : Addr} {xs : List V} (h : SqL K H a xs) (k : R (Ite K a) H) : EnE K R [.ref a] H := ⟨a, xs, rfl, h, k⟩
theorem loopEn {σ : L2.St} {H : Hp} {D : Ends} {K : PySem.W.Frag} {g : TG} {tb : TS} {a : Addr} {xs : List V} (Pv : Nat → L2.St → Hp → Prop) (h0 : Pv 0 σ H) (hl : ∀ i σ H, i ≤ xs.length → Pv i σ H → SqL K H a xs)
    (hs : ∀ i x T σ H H', i < xs.length → xs[i]? = some x → Pv i σ H → H T = none → Sm H H' → H' T = some (.tup [.int (i : Nat), x]) → g (.ref T) σ H' fun σ2 H2 => tb (En (Pv (i + 1)) (RT D) (NX D) (Pv (i + 1))) σ2 H2)
    (hd : ∀ σ H, Pv xs.length σ H → NX D σ H) : Loop (Ite K a) g tb D σ H :=
  for_it walk_enum Pv h0 hl (fun i x σ H H' hi p y => by
    obtain ⟨T, u, v, rfl, hT, rfl, h1, h2⟩ := y
    cases h1
    exact hs i v T σ H _ hi h2 p hT (sm_new hT) upd_same) hd
local macro_rules | `(tactic| tm_at "rs") => `(tactic| first | with_reducible refine w_iEn ?_ | ((with_reducible refine' w_iEne ?h ?k); (case h => tm_at "rsq")) | fail "no")
/-! sayings of the word same, terms summed -/
def SayT (K : PySem.W.Frag) (H : Hp) (v : V) (ab : Tm × Tm) : Prop := ∃ l r, SayAt K H v "same" l r ∧ TmAt K H ab.1 l ∧ TmAt K H ab.2 r
theorem SayT.sm {K : PySem.W.Frag} {H H' : Hp} {v : V} {ab : Tm × Tm} (h : SayT K H v ab) (e : Sm H H') : SayT K H' v ab := by
  obtain ⟨l, r, a, b, c⟩ := h
  exact ⟨l, r, a.sm e, b.sm e, c.sm e⟩
def TmsAt (K : PySem.W.Frag) (H : Hp) (vs : List V) (ts : List Tm) : Prop := Paired (fun v t => TmAt K H t v) vs ts
theorem TmsAt.sm {K : PySem.W.Frag} {H H' : Hp} {vs : List V} {ts : List Tm} (h : TmsAt K H vs ts) (e : Sm H H') : TmsAt K H' vs ts := paired_mono (fun _ _ q => q.sm e) h
theorem TmsAt.kpL {K : PySem.W.Frag} {H H' : Hp} {vs : List V} {ts : List Tm} {b : Addr} {ys : List V} (h : TmsAt K H vs ts) (hb : H b = some (.lst ys)) (e : Kp b H H') : TmsAt K H' vs ts := paired_mono (fun _ _ q => q.kpL hb e) h
def sumT : List Tm → Tm
  | [] => .num 0
  | t :: ts => ts.foldl (fun a b => .op "plus" a b) t
theorem sumT_add {ts : List Tm} {t : Tm} (h : ts ≠ []) : sumT (ts ++ [t]) = .op "plus" (sumT ts) t := by
  cases ts with
  | nil => exact absurd rfl h
  | cons a as =>
    show (as ++ [t]).foldl _ a = _
    rw [List.foldl_append]
    rfl
/-! f-strings -/
def JoE (ts : List TE) (acc : Str) (σ : L2.St) (Q : Str → Hp → Prop) (x : V) (H : Hp) : Prop := ∃ y : Str, x = .str y ∧ (acc ++ y).length ≤ sizeLine ∧ tJs ts (acc ++ y) σ H Q
def FmE (Q : VK) (x : V) (H : Hp) : Prop := (∃ y : Str, x = .str y ∧ y.length ≤ sizeLine ∧ Q (.str y) H) ∨ ∃ i : Int, x = .int i ∧ i.natAbs.log2 < 1920 ∧ Q (.str (toString i)) H
section
variable {σ : L2.St} {H : Hp} {Q : VK} {QS : Str → Hp → Prop} {ts : List TE} {t : TE} {acc y : Str} {i : Int}
theorem w_js (k : tJs ts Str.empty σ H fun out H1 => Q (.str out) H1) : (fun σ H Q => tJs ts Str.empty σ H fun out H1 => Q (.str out) H1 : TE) σ H Q := k
theorem w_j0 (k : QS acc H) : tJs [] acc σ H QS := k
theorem w_jc (k : t σ H (JoE ts acc σ QS)) : tJs (t :: ts) acc σ H QS := k
theorem w_je (z : (acc ++ y).length ≤ sizeLine) (k : tJs ts (acc ++ y) σ H QS) : JoE ts acc σ QS (.str y) H := ⟨y, rfl, z, k⟩
theorem str_e0 {y : Str} : Str.empty ++ y = y := by
  cases y with
  | mk c =>
    show Str.mk (#[] ++ c) = _
    rw [Array.empty_append]
theorem w_je0 (z : y.length ≤ sizeLine) (k : tJs ts y σ H QS) : JoE ts Str.empty σ QS (.str y) H := ⟨y, rfl, by rw [str_e0]; exact z, by rw [str_e0]; exact k⟩
theorem w_fm (k : t σ H (FmE Q)) : tFmt t σ H Q := k
theorem w_fmS (z : y.length ≤ sizeLine) (k : Q (.str y) H) : FmE Q (.str y) H := .inl ⟨y, rfl, z, k⟩
theorem w_fmI (z : i.natAbs.log2 < 1920) (k : Q (.str (toString i)) H) : FmE Q (.int i) H := .inr ⟨i, rfl, z, k⟩
theorem log_i64 (h : i.natAbs < 2 ^ 64) : i.natAbs.log2 < 1920 := PySem.Spec.log2_small (Nat.lt_of_lt_of_le h (by decide +kernel))
end
theorem tos_le {i : Int} (h : i.natAbs < 2 ^ 64) : (Str.ofString (toString i)).length ≤ 25 := by
  have e := int_text_length_le10 (k := 20) (by decide) (Nat.lt_of_lt_of_le h (show 2 ^ 64 ≤ 10 ^ 20 by decide))
  rw [PySem.ofString_length]
  omega
theorem sz_app {a b : Str} (h : b.length ≤ 25) (k : a.length ≤ 1000) : (a ++ b).length ≤ sizeLine := by
  rw [app_len]
  exact sz_of (by omega)
local macro_rules | `(tactic| tm_at "rsl") => `(tactic| first | with_reducible assumption | exact sz_of (by decide) | (apply sz_of; omega) | ((refine sz_app (tos_le ?h) ?i); (case h => omega); (case i => first | omega | decide)) | ((apply sz_of); (simp only [app_len]); omega) | fail "no")
local macro_rules | `(tactic| tm_at "rs") => `(tactic| first | with_reducible refine w_js ?_ | with_reducible refine w_jc ?_ | with_reducible refine w_j0 ?_ | with_reducible refine w_fm ?_ | ((with_reducible refine w_je0 ?h ?_); (case h => tm_at "rsl")) | ((with_reducible refine w_je ?h ?_); (case h => tm_at "rsl")) | ((with_reducible refine w_fmS ?h ?_); (case h => tm_at "rsl")) | ((with_reducible refine w_fmI ?h ?_); (case h => (apply log_i64; omega))) | fail "no")
/-! repr of lists and tuples, where nothing is being shown -/
theorem w_isiLst {K : PySem.W.Frag} {H : Hp} {Q : VK} {a : Addr} {xs : List V} (h : H a = some (.lst xs)) (k : Q (.bl true) H) : rIsi K [.ref a, .ty "list"] H Q := ⟨_, _, _, _, _, rfl, .ty _, .base (.lst h), kit_ty (by decide +kernel), k⟩
local macro_rules | `(tactic| tm_at "rs") => `(tactic| first | ((with_reducible refine' w_isiLst ?h ?k); (case h => tm_at "rlk")) | fail "no")
/-! data that can be shown: so deep, so many -/
structure ShD (d : PyData) (D N : Nat) : Prop where
  sh : d.showable = true
  nd : d.hasDict = false
  lv : d.leavesShort 600 = true
  dp : d.depth ≤ D
  bk : d.bulk ≤ N
structure ShL (ds : List PyData) (D N : Nat) : Prop where
  sh : PyData.showableAll ds = true
  nd : PyData.hasDictAll ds = false
  lv : PyData.leavesShortAll 600 ds = true
  dp : PyData.depthAll ds ≤ D
  bk : PyData.bulkAll ds ≤ N
theorem ShD.int {n : Int} {D : Nat} (h : n.natAbs < 10 ^ 500) : ShD (.int n) D 0 := by
  have e := int_text_length_le10 (k := 500) (by decide) h
  have hs : (PyData.shown (.int n)).length ≤ 600 := by
    show (Str.ofString (toString n)).length ≤ 600
    rw [PySem.ofString_length]
    omega
  have hl : n.natAbs.log2 < 1920 := PySem.Spec.log2_small (Nat.lt_of_lt_of_le h (by decide +kernel))
  exact ⟨by simp [PyData.showable, hl], by simp [PyData.hasDict], by simp [PyData.leavesShort, hs], by simp [PyData.depth], by simp [PyData.bulk]⟩
theorem ShD.str {x : Str} {D : Nat} (h : ∀ c ∈ x.cps.toList, c < 16 ^ 8) : ShD (.str x) D x.length := by
  refine ⟨by simp [PyData.showable], by simp [PyData.hasDict], ?_, by simp [PyData.depth], by simp [PyData.bulk]; exact Nat.le_refl _⟩
  simp only [PyData.leavesShort, List.all_eq_true, decide_eq_true_eq]
  exact h
theorem ShD.none {D : Nat} : ShD .none D 0 := ⟨rfl, rfl, rfl, by simp [PyData.depth], by simp [PyData.bulk]⟩
theorem ShL.nil {D : Nat} : ShL [] D 0 := ⟨rfl, rfl, rfl, by simp [PyData.depthAll], by simp [PyData.bulkAll]⟩
theorem ShL.cons {d : PyData} {ds : List PyData} {D N M : Nat} (h : ShD d D N) (k : ShL ds D M) : ShL (d :: ds) D (N + 1 + M) :=
  ⟨by simp [PyData.showableAll, h.sh, k.sh], by simp [PyData.hasDictAll, h.nd, k.nd], by simp [PyData.leavesShortAll, h.lv, k.lv], by
    have a := h.dp
    have b := k.dp
    simp only [PyData.depthAll]
    omega, by
    have a := h.bk
    have b := k.bk
    simp only [PyData.bulkAll]
    omega⟩
theorem ShL.up {ds : List PyData} {D D' N N' : Nat} (h : ShL ds D N) (a : D ≤ D') (b : N ≤ N') : ShL ds D' N' := ⟨h.sh, h.nd, h.lv, Nat.le_trans h.dp a, Nat.le_trans h.bk b⟩
theorem ShD.up {d : PyData} {D D' N N' : Nat} (h : ShD d D N) (a : D ≤ D') (b : N ≤ N') : ShD d D' N' := ⟨h.sh, h.nd, h.lv, Nat.le_trans h.dp a, Nat.le_trans h.bk b⟩
theorem ShL.tup {ds : List PyData} {D N : Nat} (h : ShL ds D N) : ShD (.tuple ds) (D + 1) N :=
  ⟨by simp [PyData.showable, h.sh], by simp [PyData.hasDict, h.nd], by simp [PyData.leavesShort, h.lv], by
    have a := h.dp
    simp only [PyData.depth]
    omega, by
    have b := h.bk
    simp only [PyData.bulk]
    omega⟩
theorem ShL.lst {ds : List PyData} {D N : Nat} (h : ShL ds D N) : ShD (.list ds) (D + 1) N :=
  ⟨by simp [PyData.showable, h.sh], by simp [PyData.hasDict, h.nd], by simp [PyData.leavesShort, h.lv], by
    have a := h.dp
    simp only [PyData.depth]
    omega, by
    have b := h.bk
    simp only [PyData.bulk]
    omega⟩
theorem ShL.all {D N : Nat} : ∀ {ds : List PyData}, (∀ d ∈ ds, ShD d D N) → ShL ds D (ds.length * (N + 1))
  | [], _ => by
    rw [List.length_nil, Nat.zero_mul]
    exact ShL.nil
  | d :: ds, h => by
    have a := ShL.cons (h d List.mem_cons_self) (ShL.all (ds := ds) fun x hx => h x (List.mem_cons_of_mem _ hx))
    refine a.up (Nat.le_refl _) ?_
    rw [List.length_cons, Nat.succ_mul]
    omega
theorem ShD.len {d : PyData} {D N : Nat} (h : ShD d D N) (b : N ≤ 27000) : d.shown.length ≤ sizeLine := by
  have e := PyData.shown_le_bulk 600 (by decide) d h.lv
  have e2 : (600 + 2) * d.bulk ≤ 602 * 27000 := Nat.mul_le_mul_left _ (Nat.le_trans h.bk b)
  have e3 : 602 * 27000 + 600 ≤ sizeLine := by decide
  omega
/-! a letter and a number; lists of such -/
/-- plain texts of few signs -/
def NmOk (l : List Str) : Prop := ∀ z ∈ l, Low z ∧ z.length ≤ 40
theorem NmOk.app {l m : List Str} (h : NmOk l) (k : NmOk m) : NmOk (l ++ m) := fun z hz => (List.mem_append.mp hz).elim (h z) (k z)
/-! list(range(n)) -/
def LrE (Q : VK) (x : V) (H : Hp) : Prop := ∃ n, x = .int n ∧ (RgOk 0 n ∧ ∀ q, H q = none → Q (.ref q) (upd H q (.lst (rgV 0 n))))
theorem w_lrg {ta : TE} {σ : L2.St} {H : Hp} {Q : VK} (k : ta σ H (LrE Q)) : tLstRg (tRg1 ta) σ H Q := k
theorem rg_nV (n : Nat) : rgV 0 ((n : Nat) : Int) = nV (List.range n) := by
  unfold rgV nV
  rw [show (((n : Nat) : Int) - 0).toNat = n by omega]
  refine List.map_congr_left fun i _ => ?_
  rw [Int.zero_add]
theorem w_lre {n : Nat} {H : Hp} {Q : VK} (h : n ≤ 10000) (k : ∀ p H', H p = none → Sm H H' → H' p = some (.lst (nV (List.range n))) → Q (.ref p) H') : LrE Q (.int (n : Nat)) H :=
  ⟨_, rfl, RgOk.of_le (by decide) (by omega) (by decide) (by omega), fun p hp => k p _ hp (sm_new hp) (by rw [upd_same, rg_nV])⟩
local macro_rules | `(tactic| tm_at "rs") => `(tactic| first | with_reducible refine w_lrg ?_ | ((with_reducible refine' w_lre ?h (fun _ _ _ _ _ => ?k)); (case h => omega)) | fail "no")
/-! lists: slices by a number, pairs in step, sums -/
/-! both ways of an if lead to one place -/
/-! zip(t, u, strict=True) over two tuples of one length -/
/-- two tuples of one length, as they stand at each turn -/
def ItS (K : PySem.W.Frag) (a b : Addr) : It :=
  ⟨fun i H => ∃ (xs ys : List V) (x y : V), SqT K H a xs ∧ SqT K H b ys ∧ xs[i]? = some x ∧ ys[i]? = some y, fun i H v H' => ∃ T x y, v = .ref T ∧ H T = none ∧ H' = upd H T (.tup [x, y]) ∧ (∀ xs, SqT K H a xs → xs[i]? = some x) ∧ ∀ ys, SqT K H b ys → ys[i]? = some y, fun i H => ∃ xs ys : List V, SqT K H a xs ∧ SqT K H b ys ∧ xs.length ≤ i ∧ ys.length ≤ i⟩
def iZipS (K : PySem.W.Frag) (ta tk : TA) : TI := fun σ H R => ta σ H fun vs H1 => tk σ H1 fun zs H2 => ∃ a b xs ys, vs = [.ref a, .ref b] ∧ zs = [.bl true] ∧ SqT K H2 a xs ∧ SqT K H2 b ys ∧ R (ItS K a b) H2
def ZsE (K : PySem.W.Frag) (R : It → Hp → Prop) (vs zs : List V) (H2 : Hp) : Prop := ∃ a b xs ys, vs = [.ref a, .ref b] ∧ zs = [.bl true] ∧ SqT K H2 a xs ∧ SqT K H2 b ys ∧ R (ItS K a b) H2
theorem w_iZS {K : PySem.W.Frag} {σ : L2.St} {H : Hp} {ta tk : TA} {R : It → Hp → Prop} (k : ta σ H fun vs H1 => tk σ H1 fun zs H2 => ZsE K R vs zs H2) : iZipS K ta tk σ H R := k
theorem w_iZSe {K : PySem.W.Frag} {H : Hp} {R : It → Hp → Prop} {a b : Addr} {xs ys : List V} (h1 : SqT K H a xs) (h2 : SqT K H b ys) (k : R (ItS K a b) H) : ZsE K R [.ref a, .ref b] [.bl true] H := ⟨a, b, xs, ys, rfl, rfl, h1, h2, k⟩
local macro_rules | `(tactic| tm_at "rs") => `(tactic| first | with_reducible refine w_iZS ?_ | ((with_reducible refine' w_iZSe ?h ?i ?k); (case h => tm_at "rst"); (case i => tm_at "rst")) | fail "no")
/-! bits of a number: how many, which -/
/-! choosing numbers -/
def ch : Nat → Nat → Nat
  | _, 0 => 1
  | 0, _ + 1 => 0
  | n + 1, k + 1 => ch n k + ch n (k + 1)
/-! figures of a power -/
/-! a dict of pairs -/
def DNE (y x : V) (Q : VK) (H2 : Hp) : Prop := ∃ a o, x = .ref a ∧ DGet H2 a y o ∧ Q (.bl (!o.isSome)) H2
theorem w_dni {ty td : TE} {σ : L2.St} {H : Hp} {Q : VK} (k : ty σ H fun y H1 => td σ H1 fun x H2 => DNE y x Q H2) : tDNotIn ty td σ H Q := k
theorem w_dne {H : Hp} {Q : VK} {a : Addr} {i : Int} {kvs : List (Key × V)} (h : H a = some (.dK kvs)) (k : Q (.bl (!(valV kvs (.inl i)).isSome)) H) : DNE (.int i) (.ref a) Q H := ⟨a, _, rfl, .inl ⟨kvs, .inl i, .inl h, rfl, rfl⟩, k⟩
theorem w_eqNil {K : PySem.W.Frag} {H : Hp} {Q : VK} {a b : Addr} {l : List Nat} (h1 : SqL K H a (l.map fun t => V.int ((t : Nat) : Int))) (h2 : SqL K H b []) (k : Q (.bl (decide (l = []))) H) : gEq K (.ref a) (.ref b) H Q := by
  have e1 : (l.map fun t => V.int ((t : Nat) : Int)) = (l.map fun t : Nat => ((t : Nat) : Int)).map V.int := by rw [List.map_map]; rfl
  rw [e1] at h1
  refine .inr ⟨.list ((l.map fun t : Nat => ((t : Nat) : Int)).map .int), .list (([] : List Int).map .int), .lst h1 (dp_ints _), .lst h2 .nil, PySem.W.ke_shaped_ints _, PySem.W.ke_shaped_ints _, ?_⟩
  have e : PyData.eqv (.list ((l.map fun t : Nat => ((t : Nat) : Int)).map .int)) (.list (([] : List Int).map .int)) = decide (l = []) := by
    rw [PyData.eqv, PySem.W.ked_eqvAll]
    cases l with
    | nil => rfl
    | cons x l => rfl
  rw [e]
  exact k
local macro_rules | `(tactic| tm_at "rs") => `(tactic| first | with_reducible refine w_dni ?_ | ((with_reducible refine' w_dne ?h ?k); (case h => tm_at "rlk")) | ((with_reducible refine' w_eqNil ?h ?i ?k); (case h => tm_at "rsq"); (case i => tm_at "rsq")) | fail "no")
/-! a dict of names and numbers -/
structure DicOk (kvs : List (Key × V)) (ys : List Str) (M : Nat) : Prop where
  nd : (kvs.map (·.1)).Nodup
  ok : ∀ p ∈ kvs, ∃ (s : Str) (n : Nat), p = (Sum.inr s, V.int (n : Nat)) ∧ n < M ∧ Low s
  has : ∀ y ∈ ys, ∃ p ∈ kvs, p.1 = Sum.inr y
theorem DicOk.nil {M : Nat} : DicOk [] [] M := ⟨List.nodup_nil, (by intro p hp; cases hp), (by intro y hy; cases hy)⟩
theorem DicOk.up {kvs : List (Key × V)} {ys : List Str} {M M' : Nat} (h : DicOk kvs ys M) (l : M ≤ M') : DicOk kvs ys M' := ⟨h.nd, fun p hp => by
  obtain ⟨s, n, e, hn, hs⟩ := h.ok p hp
  exact ⟨s, n, e, by omega, hs⟩, h.has⟩
/-! a dict copied, two dicts compared -/
def gDictD : List V → Hp → VK → Prop := fun xs H Q => ∃ (a : Addr) (kvs : List (Key × V)), xs = [.ref a] ∧ Rd H a (.dK kvs) ∧ ∀ p, H p = none → Q (.ref p) (upd H p (.dK kvs))
theorem w_dictD {H : Hp} {Q : VK} {a : Addr} {kvs : List (Key × V)} (h : H a = some (.dK kvs)) (k : ∀ p H', H p = none → Sm H H' → H' p = some (.dK kvs) → Q (.ref p) H') : gDictD [.ref a] H Q := ⟨a, kvs, rfl, .inl h, fun p hp => k p _ hp (sm_new hp) upd_same⟩
/-! a dict's items as a list, two such lists compared -/
theorem w_neSame {K : PySem.W.Frag} {H : Hp} {Q : VK} {x y : V} {d : PyData} (h1 : Dp K H x d) (h2 : Dp K H y d) (s : SeqAt.shaped d = true) (k : Q (.bl false) H) : gNe K x y H Q := by
  refine .inr ⟨d, d, h1, h2, s, s, ?_⟩
  rw [PySem.SeqAt.eqv_refl d (SeqAt.canLay_of_shaped s)]
  exact k
theorem DicOk.low {kvs : List (Key × V)} {ys : List Str} {M : Nat} (h : DicOk kvs ys M) : ∀ p ∈ kvs, ∃ (s : Str) (n : Nat), p = (Sum.inr s, V.int (n : Nat)) ∧ Low s := fun p hp => by
  obtain ⟨s, n, e, _, hs⟩ := h.ok p hp
  exact ⟨s, n, e, hs⟩
def ItmE (Q : VK) (x : V) (H : Hp) : Prop := LiI.rItemsL x H Q
theorem w_itm {te : TE} {σ : L2.St} {H : Hp} {Q : VK} (k : te σ H fun x H1 => ItmE Q x H1) : LiI.tListItems te σ H Q := k
theorem w_itmE {H : Hp} {Q : VK} {d : Addr} {kvs : List (Key × V)} (h : H d = some (.dK kvs)) (k : ∀ (p : Addr) (ts : List Addr) (H' : Hp), H p = none → Sm H H' → H' p = some (.lst (ts.map V.ref)) → Paired (fun (t : Addr) (q : Key × V) => H' t = some (.tup [kV q.1, q.2])) ts kvs → Q (.ref p) H') : ItmE Q (.ref d) H :=
  ⟨d, kvs, rfl, h, fun H' p ts sm np _ _ g pr => k p ts H' np sm g pr⟩
local macro_rules | `(tactic| tm_at "rs") => `(tactic| first | with_reducible refine w_itm ?_ | ((with_reducible refine' w_itmE ?h (fun _ _ _ _ _ _ _ => ?k)); (case h => tm_at "rlk")) | ((with_reducible refine' w_dictD ?h (fun _ _ _ _ _ => ?k)); (case h => tm_at "rlk")) | fail "no")
/-! rows of a program -/
inductive Rw where
  | up (j : Nat)
  | dn (j : Nat)
  | br (j g : Nat)
  | go (g : Nat)
  | st
deriving DecidableEq
def Rw.vs : Rw → List V
  | .up j => [.str "raise", .int (j : Int)]
  | .dn j => [.str "lower", .int (j : Int)]
  | .br j g => [.str "if", .int (j : Int), .int (g : Int)]
  | .go g => [.str "go", .int (g : Int)]
  | .st => [.str "stop"]
def Rw.ds : Rw → List PyData
  | .up j => [.str "raise", .int (j : Int)]
  | .dn j => [.str "lower", .int (j : Int)]
  | .br j g => [.str "if", .int (j : Int), .int (g : Int)]
  | .go g => [.str "go", .int (g : Int)]
  | .st => [.str "stop"]
theorem Rw.tpl {H : Hp} : ∀ r : Rw, TpL H r.ds r.vs
  | .up _ => tpl_cons tpd_s (tpl_cons tpd_i tpl_nil)
  | .dn _ => tpl_cons tpd_s (tpl_cons tpd_i tpl_nil)
  | .br _ _ => tpl_cons tpd_s (tpl_cons tpd_i (tpl_cons tpd_i tpl_nil))
  | .go _ => tpl_cons tpd_s (tpl_cons tpd_i tpl_nil)
  | .st => tpl_cons tpd_s tpl_nil
def Rw.ok (b n : Nat) : Rw → Prop
  | .up j => j < b
  | .dn j => j < b
  | .br j g => j < b ∧ g < n
  | .go g => g < n
  | .st => True
theorem Rw.ok_up {b n n' : Nat} (l : n ≤ n') : ∀ {r : Rw}, r.ok b n → r.ok b n'
  | .up _, h => h
  | .dn _, h => h
  | .br _ _, h => ⟨h.1, Nat.lt_of_lt_of_le h.2 l⟩
  | .go _, h => Nat.lt_of_lt_of_le h l
  | .st, h => h
def Rw.ends : Rw → Prop
  | .go _ => True
  | .st => True
  | _ => False
def RwAt (H : Hp) (v : V) (r : Rw) : Prop := ∃ p, v = .ref p ∧ H p = some (.tup r.vs)
theorem RwAt.tk {H H' : Hp} {v : V} {r : Rw} (h : RwAt H v r) (e : Tk H H') : RwAt H' v r := by
  obtain ⟨p, rfl, q⟩ := h
  exact ⟨p, rfl, e _ _ q⟩
abbrev RwsAt (H : Hp) (vs : List V) (rs : List Rw) : Prop := Paired (RwAt H) vs rs
theorem RwsAt.tk {H H' : Hp} {vs : List V} {rs : List Rw} (h : RwsAt H vs rs) (e : Tk H H') : RwsAt H' vs rs := paired_mono (fun _ _ q => q.tk e) h
def RwsOk (b n : Nat) (rs : List Rw) : Prop := ∀ r ∈ rs, r.ok b n
theorem RwsOk.up {b n n' : Nat} {rs : List Rw} (h : RwsOk b n rs) (l : n ≤ n') : RwsOk b n' rs := fun r hr => Rw.ok_up l (h r hr)
theorem RwsOk.app {b n : Nat} {rs qs : List Rw} (h : RwsOk b n rs) (k : RwsOk b n qs) : RwsOk b n (rs ++ qs) := fun r hr => by
  rcases List.mem_append.mp hr with hr | hr
  · exact h r hr
  · exact k r hr
theorem RwsOk.nil {b n : Nat} : RwsOk b n [] := fun r hr => by cases hr
theorem RwsOk.one {b n : Nat} {r : Rw} (o : r.ok b n) : RwsOk b n [r] := fun q hq => by
  rw [List.mem_singleton.mp hq]
  exact o
theorem RwsOk.cons {b n : Nat} {r : Rw} {rs : List Rw} (o : r.ok b n) (h : RwsOk b n rs) : RwsOk b n (r :: rs) := fun q hq => by
  rcases List.mem_cons.mp hq with rfl | hq
  · exact o
  · exact h q hq
/-- the rows of a program of b boxes -/
structure Prg (b : Nat) (rs : List Rw) : Prop where
  b1 : 1 ≤ b
  b5 : b ≤ 5
  ok : RwsOk b rs.length rs
  len : rs.length ≤ 14
  fin : ∃ us r, rs = us ++ [r] ∧ r.ends
/-- a program's own object -/
def PrC (K : PySem.W.Frag) (C : Addr) : Prop := ClsN K "Program" C ["boxes", "rows"]
def PrgAt (K : PySem.W.Frag) (H : Hp) (v : V) (b : Nat) (rs : List Rw) : Prop := ∃ p C dx t vs, v = .ref p ∧ PrC K C ∧ H p = some (.ins C dx [("boxes", .int (b : Nat)), ("rows", .ref t)]) ∧ H t = some (.tup vs) ∧ RwsAt H vs rs
theorem PrgAt.sm {K : PySem.W.Frag} {H H' : Hp} {v : V} {b : Nat} {rs : List Rw} (h : PrgAt K H v b rs) (e : Sm H H') : PrgAt K H' v b rs := by
  obtain ⟨p, C, dx, t, vs, rfl, c, q, ht, hr⟩ := h
  exact ⟨p, C, dx, t, vs, rfl, c, e _ _ q, e _ _ ht, hr.tk (Tk.sm e)⟩
theorem PrgAt.kp {K : PySem.W.Frag} {H H' : Hp} {v : V} {b : Nat} {rs : List Rw} {a : Addr} {ys : List V} (h : PrgAt K H v b rs) (ha : H a = some (.lst ys)) (e : Kp a H H') : PrgAt K H' v b rs := by
  obtain ⟨p, C, dx, t, vs, rfl, c, q, ht, hr⟩ := h
  exact ⟨p, C, dx, t, vs, rfl, c, e _ _ (by intro z; rw [z, ha] at q; cases q) q, Tk.kp ha e _ _ ht, hr.tk (Tk.kp ha e)⟩
theorem PrgAt.kb {K : PySem.W.Frag} {H H' : Hp} {v : V} {b : Nat} {rs : List Rw} {a : Addr} (h : PrgAt K H v b rs) (ha : BoxAt H a) (e : Kp a H H') : PrgAt K H' v b rs := by
  obtain ⟨x, s, hb, _⟩ := ha
  exact h.kp hb e
local macro_rules | `(tactic| tm_at "rpg") => `(tactic| first | with_reducible assumption | ((refine' PrgAt.sm ?sa ?sb); (case sb => with_reducible assumption); (case sa => tm_at "rpg")) | ((refine' PrgAt.kb ?sa ?sc ?sb); (case sb => with_reducible assumption); (case sc => tm_at "rbx"); (case sa => tm_at "rpg")) | ((refine' PrgAt.kp ?sa ?sc ?sb); (case sb => with_reducible assumption); (case sc => tm_at "rlk"); (case sa => tm_at "rpg")) | fail "no")
theorem w_fBoxes {K : PySem.W.Frag} {H : Hp} {Q : VK} {v : V} {b : Nat} {rs : List Rw} (h : PrgAt K H v b rs) (k : Q (.int (b : Nat)) H) : FldE K "boxes" Q v H := by
  obtain ⟨p, C, dx, t, vs, rfl, c, q, ht, hr⟩ := h
  exact ⟨p, C, dx, _, _, rfl, q, c.cl, c.na _ (by simp), rfl, k⟩
theorem w_fRows {K : PySem.W.Frag} {H : Hp} {Q : VK} {v : V} {b : Nat} {rs : List Rw} (h : PrgAt K H v b rs) (k : ∀ t vs, H t = some (.tup vs) → RwsAt H vs rs → Q (.ref t) H) : FldE K "rows" Q v H := by
  obtain ⟨p, C, dx, t, vs, rfl, c, q, ht, hr⟩ := h
  exact ⟨p, C, dx, _, _, rfl, q, c.cl, c.na _ (by simp), rfl, k t vs ht hr⟩
local macro_rules | `(tactic| tm_at "rs") => `(tactic| first | ((with_reducible refine' w_fBoxes ?h ?k); (case h => tm_at "rpg")) | ((with_reducible refine' w_fRows ?h (fun _ _ _ _ => ?k)); (case h => tm_at "rpg")) | fail "no")
/-! a row's word -/
theorem w_ixRow {K : PySem.W.Frag} {H : Hp} {Q : VK} {p : Addr} {vs : List V} {rs : List Rw} {k : Nat} {r : Rw} (h : SqL K H p vs ∨ SqT K H p vs) (hr : RwsAt H vs rs) (hk : rs[k]? = some r) (q : ∀ t, H t = some (.tup r.vs) → Q (.ref t) H) : rIx K (.ref p) (.int (k : Int)) H Q := by
  obtain ⟨v, e1, t, rfl, ht⟩ := paired_getR hr hk
  rcases h with h | h
  · exact w_ixL' h (atI_nat e1) (q t ht)
  · exact w_ixT h (atI_nat e1) (q t ht)
/-! one step -/
def aftr (rs : List Rw) (k : Nat) (cs : List Nat) : Option (Nat × List Nat) :=
  match rs[k]? with
  | some (.up j) => some (k + 1, cs.set j (cs.getD j 0 + 1))
  | some (.dn j) => if cs.getD j 0 = 0 then none else some (k + 1, cs.set j (cs.getD j 0 - 1))
  | some (.br j g) => some (if cs.getD j 0 = 0 then g else k + 1, cs)
  | some (.go g) => some (g, cs)
  | _ => none
theorem aft_up {rs : List Rw} {k j : Nat} {cs : List Nat} (h : rs[k]? = some (.up j)) : aftr rs k cs = some (k + 1, cs.set j (cs.getD j 0 + 1)) := by
  unfold aftr
  rw [h]
theorem aft_dn0 {rs : List Rw} {k j : Nat} {cs : List Nat} (h : rs[k]? = some (.dn j)) (z : cs.getD j 0 = 0) : aftr rs k cs = none := by
  unfold aftr
  rw [h]
  exact if_pos z
theorem aft_dn {rs : List Rw} {k j : Nat} {cs : List Nat} (h : rs[k]? = some (.dn j)) (z : cs.getD j 0 ≠ 0) : aftr rs k cs = some (k + 1, cs.set j (cs.getD j 0 - 1)) := by
  unfold aftr
  rw [h]
  exact if_neg z
theorem aft_br0 {rs : List Rw} {k j g : Nat} {cs : List Nat} (h : rs[k]? = some (.br j g)) (z : cs.getD j 0 = 0) : aftr rs k cs = some (g, cs) := by
  unfold aftr
  rw [h]
  show some (if cs.getD j 0 = 0 then g else k + 1, cs) = _
  rw [if_pos z]
theorem aft_br {rs : List Rw} {k j g : Nat} {cs : List Nat} (h : rs[k]? = some (.br j g)) (z : cs.getD j 0 ≠ 0) : aftr rs k cs = some (k + 1, cs) := by
  unfold aftr
  rw [h]
  show some (if cs.getD j 0 = 0 then g else k + 1, cs) = _
  rw [if_neg z]
theorem aft_go {rs : List Rw} {k g : Nat} {cs : List Nat} (h : rs[k]? = some (.go g)) : aftr rs k cs = some (g, cs) := by
  unfold aftr
  rw [h]
theorem aft_st {rs : List Rw} {k : Nat} {cs : List Nat} (h : rs[k]? = some .st) : aftr rs k cs = none := by
  unfold aftr
  rw [h]
def StdAt (H : Hp) (v : V) (k : Nat) (cs : List Nat) : Prop := ∃ p t, v = .ref p ∧ H p = some (.tup [.int (k : Nat), .ref t]) ∧ H t = some (.tup (nV cs))
theorem StdAt.tk {H H' : Hp} {v : V} {k : Nat} {cs : List Nat} (h : StdAt H v k cs) (e : Tk H H') : StdAt H' v k cs := by
  obtain ⟨p, t, rfl, a, b⟩ := h
  exact ⟨p, t, rfl, e _ _ a, e _ _ b⟩
def OStd (H : Hp) (v : V) : Option (Nat × List Nat) → Prop
  | none => v = .non
  | some (k, cs) => StdAt H v k cs
theorem OStd.tk {H H' : Hp} {v : V} : ∀ {o : Option (Nat × List Nat)}, OStd H v o → Tk H H' → OStd H' v o
  | none, h, _ => h
  | some (_, _), h, e => StdAt.tk h e
/-! the table of words -/
def KgE (K : PySem.W.Frag) (w : World) (Q : VK) (x y : V) (H2 : Hp) : Prop := ∃ a z v, x = .ref a ∧ y = .str z ∧ (a == sysModules) = false ∧ KDct K w a z v ∧ Q v H2
theorem w_kg {K : PySem.W.Frag} {w : World} {td ty : TE} {σ : L2.St} {H : Hp} {Q : VK} (k : td σ H fun x H1 => ty σ H1 fun y H2 => KgE K w Q x y H2) : tKGet K w td ty σ H Q := k
local macro_rules | `(tactic| tm_at "rs") => `(tactic| first | with_reducible refine w_kg ?_ | fail "no")
local macro_rules | `(tactic| tm_at "rrw") => `(tactic| first | with_reducible assumption | ((refine' RwsAt.tk ?sa ?sb); (case sa => with_reducible assumption); (case sb => tm_at "rtk")) | fail "no")
local macro_rules | `(tactic| tm_at "rstd") => `(tactic| first | with_reducible assumption | ((refine' StdAt.tk ?sa ?sb); (case sa => with_reducible assumption); (case sb => tm_at "rtk")) | fail "no")
local macro_rules | `(tactic| tm_at "rs") => `(tactic| first | ((with_reducible refine' w_ixRow ?h ?i ?j (fun _ _ => ?k)); (case i => tm_at "rrw"); (case h => first | exact .inl (by tm_at "rsq") | exact .inr (by tm_at "rst")); (case j => assumption)) | fail "no")
/-! stands shown -/
def oD : Option (Nat × List Nat) → PyData
  | none => .none
  | some (k, cs) => .tuple [.int (k : Nat), .tuple (nD cs)]
theorem StdAt.tpd {H : Hp} {v : V} {k : Nat} {cs : List Nat} (h : StdAt H v k cs) : TpD H (oD (some (k, cs))) v := by
  obtain ⟨p, t, rfl, a, b⟩ := h
  exact tpd_t a (tpl_cons tpd_i (tpl_cons (tpd_t b (tpl_nat cs)) tpl_nil))
/-- where a step leads -/
theorem aft_ok {b : Nat} {rs : List Rw} {k n M : Nat} {cs es : List Nat} (hg : Prg b rs) (hc : cs.length = b) (hM : ∀ c ∈ cs, c ≤ M) (e : aftr rs k cs = some (n, es)) : n ≤ 14 ∧ es.length = b ∧ (∀ c ∈ es, c ≤ M + 1) ∧ n ≤ rs.length := by
  have h14 := hg.len
  cases hk : rs[k]? with
  | none =>
    unfold aftr at e
    rw [hk] at e
    cases e
  | some r =>
    have hro := hg.ok r (List.mem_of_getElem? hk)
    have hkl : k < rs.length := (List.getElem?_eq_some_iff.mp hk).1
    have up : ∀ c ∈ cs, c ≤ M + 1 := fun c hc => Nat.le_succ_of_le (hM c hc)
    have hgd : ∀ j, cs.getD j 0 ≤ M := fun j => by
      rw [List.getD_eq_getElem?_getD]
      cases h : cs[j]? with
      | none => exact Nat.zero_le _
      | some x => exact hM x (List.mem_of_getElem? h)
    cases r with
    | up j =>
      rw [aft_up hk] at e
      cases e
      refine ⟨by omega, by rw [List.length_set]; exact hc, fun c hc => ?_, by omega⟩
      rcases List.mem_or_eq_of_mem_set hc with h | h
      · exact up c h
      · have := hgd j
        omega
    | dn j =>
      by_cases z : cs.getD j 0 = 0
      · rw [aft_dn0 hk z] at e
        cases e
      · rw [aft_dn hk z] at e
        cases e
        refine ⟨by omega, by rw [List.length_set]; exact hc, fun c hc => ?_, by omega⟩
        rcases List.mem_or_eq_of_mem_set hc with h | h
        · exact up c h
        · have := hgd j
          omega
    | br j g =>
      have hg2 : g < rs.length := hro.2
      by_cases z : cs.getD j 0 = 0
      · rw [aft_br0 hk z] at e
        cases e
        exact ⟨by omega, hc, up, by omega⟩
      · rw [aft_br hk z] at e
        cases e
        exact ⟨by omega, hc, up, by omega⟩
    | go g =>
      have hg2 : g < rs.length := hro
      rw [aft_go hk] at e
      cases e
      exact ⟨by omega, hc, up, by omega⟩
    | st =>
      rw [aft_st hk] at e
      cases e
/-! runs -/
/-- what a stand of a run keeps -/
structure SOk (b : Nat) (rs : List Rw) (M : Nat) (s : Nat × List Nat) : Prop where
  k : s.1 < rs.length
  l : s.2.length = b
  c : ∀ c ∈ s.2, c ≤ M
theorem aft_in {b : Nat} {rs : List Rw} {k : Nat} {cs : List Nat} {t : Nat × List Nat} (hg : Prg b rs) (e : aftr rs k cs = some t) : t.1 < rs.length := by
  cases hk : rs[k]? with
  | none =>
    unfold aftr at e
    rw [hk] at e
    cases e
  | some r =>
    have hro := hg.ok r (List.mem_of_getElem? hk)
    obtain ⟨us, r0, hfin, hend⟩ := hg.fin
    have hlen : rs.length = us.length + 1 := by rw [hfin, List.length_append]; rfl
    have hkl : k < rs.length := (List.getElem?_eq_some_iff.mp hk).1
    have nl : ¬ r.ends → k + 1 < rs.length := fun h => by
      apply Classical.byContradiction
      intro h2
      have : k = us.length := by omega
      rw [hfin, this, List.getElem?_append_right (Nat.le_refl _), Nat.sub_self] at hk
      cases hk
      exact h hend
    cases r with
    | up j =>
      rw [aft_up hk] at e
      cases e
      exact nl (fun h => h)
    | dn j =>
      by_cases z : cs.getD j 0 = 0
      · rw [aft_dn0 hk z] at e
        cases e
      · rw [aft_dn hk z] at e
        cases e
        exact nl (fun h => h)
    | br j g =>
      by_cases z : cs.getD j 0 = 0
      · rw [aft_br0 hk z] at e
        cases e
        exact hro.2
      · rw [aft_br hk z] at e
        cases e
        exact nl (fun h => h)
    | go g =>
      rw [aft_go hk] at e
      cases e
      exact hro
    | st =>
      rw [aft_st hk] at e
      cases e
theorem SOk.next {b : Nat} {rs : List Rw} {M : Nat} {s t : Nat × List Nat} (hg : Prg b rs) (h : SOk b rs M s) (e : aftr rs s.1 s.2 = some t) : SOk b rs (M + 1) t := by
  obtain ⟨n, es⟩ := t
  obtain ⟨_, e2, e3, _⟩ := aft_ok hg h.l h.c e
  exact ⟨aft_in hg e, e2, e3⟩
theorem SOk.up {b : Nat} {rs : List Rw} {M N : Nat} {s : Nat × List Nat} (h : SOk b rs M s) (l : M ≤ N) : SOk b rs N s := ⟨h.k, h.l, fun c hc => Nat.le_trans (h.c c hc) l⟩
/-- a list of stands as told -/
abbrev SdL (H : Hp) (xs : List V) (ss : List (Nat × List Nat)) : Prop := Paired (fun x s => StdAt H x s.1 s.2) xs ss
theorem SdL.tk {H H' : Hp} {xs : List V} {ss : List (Nat × List Nat)} (h : SdL H xs ss) (e : Tk H H') : SdL H' xs ss := paired_mono (fun _ _ q => q.tk e) h
def sD (ss : List (Nat × List Nat)) : List PyData := ss.map fun s => oD (some s)
theorem SdL.dp {K : PySem.W.Frag} {H : Hp} : ∀ {xs : List V} {ss : List (Nat × List Nat)}, SdL H xs ss → DpAll K H xs (sD ss)
  | _, _, .nil => .nil
  | _, _, .cons a b => .cons (TpD.dp _ _ a.tpd) (SdL.dp b)
/-! rows one later, behind a go -/
theorem cl_nats : ∀ l : List Nat, PyData.canLayAll0 (nD l) = true ∧ PyData.depthAll (nD l) = 0
  | [] => ⟨rfl, rfl⟩
  | x :: l => by
    obtain ⟨h1, h2⟩ := cl_nats l
    unfold nD at h1 h2
    exact ⟨by simp [nD, PyData.canLayAll0, PyData.canLay0, h1], by simp [nD, PyData.depthAll, PyData.depth, h2]⟩
/-! enumerate over a tuple -/
section
open AutoSeq1 (wpAny_loadPart')
theorem meets_enumT (l : Addr) (items : Array Value) (n : Nat) (dct : Option Addr) (sl : Array (Option Value)) :
    Meets (Builtin.«enumerate.__new__» ⟨[.type "enumerate", .ref l], []⟩) (fun _ R s => s.heap.get? l = some { cls := .type "tuple", dict := dct, data := .seq items n, slots := sl } ∧
      R (.ok (.ret (.ref (s.heap.push { cls := .type "tuple_iterator", data := .fields #[.ref l, .int 0 0] }).objs.size)))
        { s with heap := (s.heap.push { cls := .type "tuple_iterator", data := .fields #[.ref l, .int 0 0] }).push { cls := .type "enumerate", data := .fields #[.none, .bool false, .ref s.heap.objs.size, rawInt 0, .none, .none] } }) :=
  .of_wp fun prog w A R s h => by
    obtain ⟨hp, g, d, tk, os⟩ := s; obtain ⟨hl, h⟩ := h
    have hsub := sub_enumerate
    have hL : Heap.IsTuple (Shared.heap ⟨hp, g, d, tk, os⟩) l items := ⟨_, hl, rfl, n, rfl⟩
    wp_walk using wpAny_loadPart' hl
    refine wpAny_stack_any fun st => PySem.wpAny_pure ?_
    split
    · rename_i c _ _ _ _ _
      cases (c == Value.type "enumerate")
      · wp_walk using wpAny_loadPart' hl, wpAny_pyIter_tuple hL
        exact ⟨_, rfl, h⟩
      · wp_walk using wpAny_loadPart' hl, wpAny_pyIter_tuple hL
        exact ⟨_, rfl, h⟩
    · wp_walk using wpAny_loadPart' hl, wpAny_pyIter_tuple hL
      exact ⟨_, rfl, h⟩
end
section
variable {prog : Program} {w : World} {A : Around} {E : Value → Shared → Prop} {s : Shared}
theorem call_enumT {l : Addr} {items : Array Value} {Q : Value → Shared → Prop} (hL : s.heap.IsTuple l items)
    (h : ∀ h', IsEnum h' (s.heap.objs.size + 1) s.heap.objs.size 0 .none → h'.IsTupleIter s.heap.objs.size l 0 → h'.objs.size = s.heap.objs.size + 2 →
      (∀ b o, s.heap.get? b = some o → h'.get? b = some o) → Q (.ref (s.heap.objs.size + 1)) { s with heap := h' }) :
    wpAny (model prog w) A (call (.type "enumerate") [.ref l]) Q E s := by
  obtain ⟨⟨c, dct, dt, sl⟩, hl, hc, n, hd⟩ := hL
  replace hc : c = .type "tuple" := hc
  replace hd : dt = .seq items n := hd
  subst hc hd
  refine callType_new PySem.F.called_enumerate (by decide) (PySem.F.typeCall_enumerate_1 _) (PySem.F.newCall_enumerate_1 _) (fun obj => PySem.F.args_object_init_2 obj _) PySem.F.entry_enumerate_new
    (meets_enumT l items n dct sl) ⟨hl, ?_⟩
  have hz : (s.heap.push { cls := .type "tuple_iterator", data := .fields #[.ref l, .int 0 0] }).objs.size = s.heap.objs.size + 1 := Heap.size_push ..
  show _ ∧ _
  rw [hz]
  have he : IsEnum ((s.heap.push { cls := .type "tuple_iterator", data := .fields #[.ref l, .int 0 0] }).push
      { cls := .type "enumerate", data := .fields #[.none, .bool false, .ref s.heap.objs.size, rawInt 0, .none, .none] }) (s.heap.objs.size + 1) s.heap.objs.size 0 .none := by
    have := Heap.get?_push_size (s.heap.push { cls := .type "tuple_iterator", data := .fields #[.ref l, .int 0 0] })
      (o := { cls := .type "enumerate", data := .fields #[.none, .bool false, .ref s.heap.objs.size, rawInt 0, .none, .none] }) rfl
    rw [hz] at this; exact this
  refine ⟨⟨_, he, rfl⟩, h _ he ⟨_, Heap.get?_push_of_some _ (Heap.get?_push_size _ rfl), rfl, rfl⟩ (by rw [Heap.size_push, hz]) fun b o x => Heap.get?_push_of_some _ (Heap.get?_push_of_some _ x)⟩
end
section
variable {prog : Program} {w : World} {A : Around} {E : Value → Shared → Prop} {s : Shared}
theorem wpAny_pyNext_enum_endT {e it l : Addr} {i : Nat} {items : Array Value} {old : Value} {Q : Option Value → Shared → Prop} (hh : A.handled = none)
    (he : IsEnum s.heap e it i old) (hit : s.heap.IsTupleIter it l i) (hl : s.heap.IsTuple l items) (hx : items[i]? = none)
    (hQ : ∀ h', Heap.ExtBut it s.heap h' → Q none { s with heap := h' }) : wpAny (model prog w) A (pyNext (.ref e)) Q E s := by
  have hT : s.TypeIs (.ref e) "enumerate" := ⟨_, he, rfl⟩
  unfold pyNext
  refine PySem.wpAny_bind (wpAny_attempt (wpAny_callSpecial?_slot (name := Str.ofString "__next__") hT PySem.F.slot_enumerate_next
    (wpAny_call_entry PySem.F.slot_enumerate_next hT PySem.F.entry_enumerate_next ?_ (PySem.F.args_enumerate_next_1 _))))
  show wpAny _ _ (field (.ref e) 2 >>= _) _ _ _
  refine PySem.wpAny_bind (wpAny_field he rfl (x := .ref it) rfl ?_)
  refine PySem.wpAny_bind (_root_.RZ.nextOf_tuple_end hh hit hl hx fun h' x he' hx' => ?_)
  obtain ⟨o, ho, hc⟩ := hx'
  refine PySem.wpAny_bind (wpAny_isInstance (T := "StopIteration") (b := true) ⟨o, ho, hc⟩ isSubtype_stop ?_)
  exact PySem.wpAny_pure (hQ _ he')
end
def ItTE (K : PySem.W.Frag) (a : Addr) : It :=
  ⟨fun i H => ∃ (xs : List V) (x : V), SqT K H a xs ∧ xs[i]? = some x, fun i H v H' => ∃ T x, v = .ref T ∧ H T = none ∧ H' = upd H T (.tup [.int (i : Nat), x]) ∧ ∀ xs, SqT K H a xs → xs[i]? = some x, fun i H => ∃ xs : List V, SqT K H a xs ∧ xs.length ≤ i⟩
theorem turn_TE {P : Program} {w : World} {K : PySem.W.Frag} {elts : List Expr} {kk : Nat} {tpos : Pos} (a e it : Addr) :
    Turn P w K (.Tuple elts kk tpos) (ItTE K a) [e, it] e (fun i h => (∃ old, IsEnum h e it ((i : Nat) : Int) old) ∧ h.IsTupleIter it a i ∧ e ≠ it ∧ e ≠ a ∧ a ≠ it) where
  mem := List.mem_cons_self
  obj := by
    rintro i h ⟨⟨old, he⟩, ⟨o, ho, hc, hd⟩, _⟩ b hb
    rcases (show b = e ∨ b = it by simpa using hb) with rfl | rfl
    · exact ⟨_, he, fun v q => nomatch q⟩
    · exact ⟨o, ho, fun v q => by rw [hd] at q; cases q⟩
  keep := by
    rintro i h h' ⟨⟨old, he⟩, ⟨o, ho, r⟩, ne⟩ k
    exact ⟨⟨old, k e (by simp) _ he⟩, ⟨o, k it (by simp) o ho, r⟩, ne⟩
  item := by
    intro X hP hw hK hc i pins s σ H E I hf st hg
    subst hP hw hK
    obtain ⟨⟨old, he⟩, hit, hne, hea, hai⟩ := st
    obtain ⟨xs, x, hq, hx⟩ := hg
    obtain ⟨its, rv, p, _⟩ := I.tuple hq
    obtain ⟨u, hu, ru⟩ := rv.get hx
    have hlen : i < its.length := (List.getElem?_eq_some_iff.mp hu).1
    have hel : e < s.heap.objs.size := Heap.lt_size he
    have hil : it < s.heap.objs.size := by
      obtain ⟨_, q, _⟩ := hit
      exact Heap.lt_size q
    have hef : e ∉ [it, a] := by simp [hne, hea]
    have D := Draws.tuple (prog := X.prog) (w := X.w) (A := X.A.in1) (I.ok.hd hc) it a hai its.toArray
    refine wpAny_pyNext_enum_itemD D he ⟨hit, p⟩ (by simpa using hlen) hne hef fun v h' tk hv ho hit' hT hsz hk => ?_
    have hvu : v = u := by
      have hv : its.toArray[i]? = some v := hv
      rw [show its.toArray[i]? = some u by simpa using hu] at hv
      exact (Option.some.inj hv).symm
    subst hvu
    refine ⟨_, rfl, wpAny_letOwnedTupleGo_enum (prog := X.prog) (w := X.w) (s := { s with heap := h', toks := tk + 1 }) ho fun h'' he' sb => ?_⟩
    have hT2 := (sb.2 _ (Nat.ne_of_gt hel)).trans hT
    have new : ObjOk X.prog X.w (upd H s.heap.objs.size (.tup [.int (i : Nat), x])) h'' s.heap.objs.size (.tup [.int (i : Nat), x]) :=
      ⟨by show 2 ≤ sizeLine; decide, [.int i tk, v], .cons ⟨_, rfl⟩ (.cons ru .nil), ⟨_, hT2, rfl, _, rfl⟩⟩
    have I1 := Inv.turnedNew (t' := tk + 1) I (ch := [e, it]) (fun b ob hb q => (sb.2 b (fun z => hb (by simp [z]))).trans (hk b ob (fun z => hb (by simp [z])) (fun z => hb (by simp [z])) q)) hf (Nat.le_refl _) new
    refine ⟨.ref s.heap.objs.size, _, I1, rfl, ⟨_, x, rfl, I.hok.fresh (Nat.le_refl _), rfl, fun ys hy => by rw [I.tuple_inj hy hq]; exact hx⟩, ⟨⟨v, ?_⟩, ?_, hne, hea, hai⟩, fun b hb => ?_⟩
    · rw [show ((i + 1 : Nat) : Int) = (i : Int) + 1 from rfl]
      exact he'
    · obtain ⟨o, q, r⟩ := hit'.1
      exact ⟨o, (sb.2 it (Ne.symm hne)).trans q, r⟩
    · have hb' : b < s.heap.objs.size := by
        rcases (show b = e ∨ b = it by simpa using hb) with rfl | rfl
        · exact hel
        · exact hil
      rw [upd_ne (Nat.ne_of_lt hb')]
      exact (hf b hb).1
  done := by
    intro X hP hw hK hc i pins s σ H E I hf st hg
    subst hP hw hK
    obtain ⟨⟨old, he⟩, hit, hne, hea, hai⟩ := st
    obtain ⟨xs, hq, hx⟩ := hg
    obtain ⟨its, rv, p, _⟩ := I.tuple hq
    have hl := rv.length
    obtain ⟨f0, f1, f2, f3, f4, f5⟩ := hf it (by simp)
    refine wpAny_pyNext_enum_endT (I.ok.hd hc) he hit p (by simp; omega) fun h' eb => ⟨rfl, I.turned (t' := s.toks) (fun b o hb q => eb b o hb q) f0 f1 f3 f4 f5⟩
  self := fun A i s Q E st h => by
    obtain ⟨⟨_, he⟩, _⟩ := st
    exact wpAny_pyIter_enum he h
def iEnT (K : PySem.W.Frag) (ta : TA) : TI := fun σ H R => ta σ H fun vs H1 => ∃ a xs, vs = [.ref a] ∧ SqT K H1 a xs ∧ R (ItTE K a) H1
theorem pi_enT {X : Cx} {e : Expr} {ta : TA} {p pos tpos : Pos} {elts : List Expr} {kk : Nat} (hg : Gl X "enumerate") (hm : X.mg "enumerate" = none) (ha : PA X [e] ta) (hs : starEach [e] X.env = [(false, eval e X.env)] := by rfl) :
    PI X (.Tuple elts kk tpos) (.Call (.Name "enumerate" p) [e] [] pos) (iEnT X.K ta) := by
  refine ⟨fun pins s σ H R I h => Call_ (ld_blt I hg hm boot_enumerate (PyProof.Rows.callWith_type1 (thn (ha.run pos pins s σ H _ I h) fun us s1 ⟨vs, H1, I1, r1, q1⟩ => ?_) hs rfl))⟩
  obtain ⟨a, xs, rfl, hq, q⟩ := q1
  obtain ⟨u, rfl, ru⟩ := vals1 r1
  obtain rfl : u = Value.ref a := ru
  obtain ⟨its, rv, p1, _⟩ := I1.tuple hq
  obtain ⟨o1, ho1, _⟩ := id p1
  have hal : a < s1.heap.objs.size := Heap.lt_size ho1
  refine call_enumT (items := its.toArray) p1 fun h' he hit hsz hk => wpAny_pyIter_enum he ?_
  have I2 : Inv X pins σ H1 { s1 with heap := h' } := Inv.kept (t' := s1.toks) I1 hk
  refine ⟨s1.heap.objs.size + 1, [s1.heap.objs.size + 1, s1.heap.objs.size], _, _, H1, rfl, I2, turn_TE a (s1.heap.objs.size + 1) s1.heap.objs.size, ⟨⟨.none, he⟩, hit, Nat.succ_ne_self _, Nat.ne_of_gt (Nat.lt_succ_of_lt hal), Nat.ne_of_lt hal⟩, fun b hb => ?_, q⟩
  have hle : s1.heap.objs.size ≤ b := by
    rcases (show b = s1.heap.objs.size + 1 ∨ b = s1.heap.objs.size by simpa using hb) with rfl | rfl
    · exact Nat.le_add_right _ _
    · exact Nat.le_refl _
  exact I1.fpOk hle (I1.hok.fresh hle)
theorem walk_TE {K : PySem.W.Frag} {a : Addr} {xs : List V} : Walk (ItTE K a) xs.length (fun H => SqT K H a xs) (YPair (fun i => some (.int (i : Nat))) (fun i => xs[i]?)) :=
  ⟨fun i H hi h => ⟨xs, _, h, List.getElem?_eq_getElem hi⟩, fun H h => ⟨xs, h, Nat.le_refl _⟩, fun i H v H' hi h y => by
    obtain ⟨T, x, e1, e2, e3, e4⟩ := y
    exact ⟨T, _, x, e1, e2, e3, rfl, e4 xs h⟩⟩
def EtE (K : PySem.W.Frag) (R : It → Hp → Prop) (vs : List V) (H1 : Hp) : Prop := ∃ a xs, vs = [.ref a] ∧ SqT K H1 a xs ∧ R (ItTE K a) H1
theorem w_iEt {K : PySem.W.Frag} {σ : L2.St} {H : Hp} {ta : TA} {R : It → Hp → Prop} (k : ta σ H fun vs H1 => EtE K R vs H1) : iEnT K ta σ H R := k
theorem w_iEte {K : PySem.W.Frag} {H : Hp} {R : It → Hp → Prop} {a : Addr} {xs : List V} (h : SqT K H a xs) (k : R (ItTE K a) H) : EtE K R [.ref a] H := ⟨a, xs, rfl, h, k⟩
theorem loopEt {σ : L2.St} {H : Hp} {D : Ends} {K : PySem.W.Frag} {g : TG} {tb : TS} {a : Addr} {xs : List V} (Pv : Nat → L2.St → Hp → Prop) (h0 : Pv 0 σ H) (hl : ∀ i σ H, i ≤ xs.length → Pv i σ H → SqT K H a xs)
    (hs : ∀ i x T σ H H', i < xs.length → xs[i]? = some x → Pv i σ H → H T = none → Sm H H' → H' T = some (.tup [.int (i : Nat), x]) → g (.ref T) σ H' fun σ2 H2 => tb (En (Pv (i + 1)) (RT D) (NX D) (Pv (i + 1))) σ2 H2)
    (hd : ∀ σ H, Pv xs.length σ H → NX D σ H) : Loop (ItTE K a) g tb D σ H :=
  for_it walk_TE Pv h0 hl (fun i x σ H H' hi p y => by
    obtain ⟨T, u, v, rfl, hT, rfl, h1, h2⟩ := y
    cases h1
    exact hs i v T σ H _ hi h2 p hT (sm_new hT) upd_same) hd
local macro_rules | `(tactic| tm_at "rs") => `(tactic| first | with_reducible refine w_iEt ?_ | ((with_reducible refine' w_iEte ?h ?k); (case h => tm_at "rst")) | fail "no")
/-! rows alike -/
def rsD (rs : List Rw) : List PyData := rs.map fun r => .tuple r.ds
theorem RwAt.dp {K : PySem.W.Frag} {H : Hp} {v : V} {r : Rw} (h : RwAt H v r) : Dp K H v (.tuple r.ds) := by
  obtain ⟨p, rfl, q⟩ := h
  exact .tup (st_of q) (TpL.dp _ _ r.tpl)
theorem RwsAt.dp {K : PySem.W.Frag} {H : Hp} : ∀ {vs : List V} {rs : List Rw}, RwsAt H vs rs → DpAll K H vs (rsD rs)
  | _, _, .nil => .nil
  | _, _, .cons a b => .cons a.dp (RwsAt.dp b)
theorem w_isiNb {K : PySem.W.Frag} {H : Hp} {Q : VK} (k : Q (.bl false) H) : rIsi K [.non, .ty "bool"] H Q := ⟨_, _, _, _, _, rfl, .ty _, .base .non, kit_ty (by decide +kernel), k⟩
theorem w_neNN {K : PySem.W.Frag} {H : Hp} {Q : VK} (k : Q (.bl false) H) : gNe K .non .non H Q := .inl ⟨rfl, by simpa using k⟩
local macro_rules | `(tactic| tm_at "rs") => `(tactic| first | with_reducible refine w_isiNb ?_ | with_reducible refine w_neNN ?_ | fail "no")
/-! which boxes are asked -/
/-! a dict with numbers as keys -/
def nKey (n : Nat) : Key := Sum.inl ((n : Nat) : Int)
theorem w_dpeN {D : Ends} {σ : L2.St} {H : Hp} {a : Addr} {n : Nat} {v : V} {kvs : List (Key × V)} (h : H a = some (.dK kvs)) (l : kvs.length < sizeLine) (k : ∀ H', Kp a H H' → H' a = some (.dK (putK kvs (nKey n) v)) → NX D σ H') : DpE D σ v (.ref a) (.int (n : Nat)) H :=
  ⟨a, _, rfl, .inl ⟨kvs, nKey n, h, rfl, l, rfl⟩, k _ kp_upd upd_same⟩
/-! lists of numbers against the empty one -/
theorem w_neNil {K : PySem.W.Frag} {H : Hp} {Q : VK} {a b : Addr} {l : List Nat} (h1 : SqL K H a (nV l)) (h2 : SqL K H b []) (k : Q (.bl (decide (l ≠ []))) H) : gNe K (.ref a) (.ref b) H Q := by
  have sh : ∀ m : List Nat, SeqAt.shaped (.list (nD m)) = true := fun m => by
    obtain ⟨c1, c2⟩ := cl_nats m
    have h3 : (PyData.list (nD m)).depth ≤ 64 := by
      simp only [PyData.depth]
      omega
    show ((PyData.list (nD m)).canLay0 && decide ((PyData.list (nD m)).depth ≤ 64)) = true
    rw [Bool.and_eq_true]
    exact ⟨by simp only [PyData.canLay0]; exact c1, decide_eq_true h3⟩
  refine .inr ⟨.list (nD l), .list (nD []), .lst h1 (TpL.dp _ _ (tpl_nat (H := H) l)), .lst h2 .nil, sh l, sh [], ?_⟩
  have e : (!PyData.eqv (.list (nD l)) (.list (nD []))) = decide (l ≠ []) := by
    cases l <;> simp [nD, PyData.eqv, PyData.eqvAll]
  rw [e]
  exact k
/-! str of a number -/
def gStrN : List V → Hp → VK → Prop := fun xs H Q => ∃ i : Int, xs = [.int i] ∧ i.natAbs.log2 < 1920 ∧ Q (.str (toString i)) H
theorem w_strN {i : Int} {H : Hp} {Q : VK} (h : i.natAbs < 2 ^ 64) (k : Q (.str (Str.ofString (toString i))) H) : gStrN [.int i] H Q := ⟨i, rfl, log_i64 h, k⟩
theorem sz_add {a b : Str} (h : b.length ≤ 25) (k : a.length ≤ 1000) : a.length + b.length ≤ sizeLine := sz_of (by omega)
local macro_rules | `(tactic| tm_at "rs") => `(tactic| first | ((with_reducible refine' w_dpeN ?h ?l (fun _ _ _ => ?k)); (case h => tm_at "rlk"); (case l => tm_at "rsz")) | ((with_reducible refine' w_neNil ?h ?l ?k); (case h => tm_at "rsq"); (case l => tm_at "rsq")) | ((with_reducible refine w_strN ?h ?_); (case h => omega)) | ((with_reducible refine w_addS ?h ?_); (case h => (refine sz_add (tos_le ?i) ?j; (case i => omega); (case j => first | omega | decide)))) | fail "no")
/-! sayings: a word and two terms; lists of them -/
abbrev SyW := Str × Tm × Tm
def SyAt (K : PySem.W.Frag) (H : Hp) (v : V) (s : SyW) : Prop := ∃ l r, SayAt K H v s.1 l r ∧ TmAt K H s.2.1 l ∧ TmAt K H s.2.2 r
theorem SyAt.sm {K : PySem.W.Frag} {H H' : Hp} {v : V} {s : SyW} (h : SyAt K H v s) (e : Sm H H') : SyAt K H' v s := by
  obtain ⟨l, r, a, b, c⟩ := h
  exact ⟨l, r, a.sm e, b.sm e, c.sm e⟩
theorem SyAt.kpL {K : PySem.W.Frag} {H H' : Hp} {v : V} {s : SyW} {b : Addr} {ys : List V} (h : SyAt K H v s) (hb : H b = some (.lst ys)) (e : Kp b H H') : SyAt K H' v s := by
  obtain ⟨l, r, p, q, t⟩ := h
  exact ⟨l, r, p.kpL hb e, q.kpL hb e, t.kpL hb e⟩
def SysAt (K : PySem.W.Frag) (H : Hp) (vs : List V) (ss : List SyW) : Prop := Paired (SyAt K H) vs ss
theorem SysAt.sm {K : PySem.W.Frag} {H H' : Hp} {vs : List V} {ss : List SyW} (h : SysAt K H vs ss) (e : Sm H H') : SysAt K H' vs ss := paired_mono (fun _ _ q => q.sm e) h
theorem SysAt.kpL {K : PySem.W.Frag} {H H' : Hp} {vs : List V} {ss : List SyW} {b : Addr} {ys : List V} (h : SysAt K H vs ss) (hb : H b = some (.lst ys)) (e : Kp b H H') : SysAt K H' vs ss := paired_mono (fun _ _ q => q.kpL hb e) h
theorem SysAt.len {K : PySem.W.Frag} {H : Hp} {vs : List V} {ss : List SyW} (h : SysAt K H vs ss) : vs.length = ss.length := paired_len h
theorem SysAt.app {K : PySem.W.Frag} {H : Hp} {vs us : List V} {ss ts : List SyW} (h : SysAt K H vs ss) (k : SysAt K H us ts) : SysAt K H (vs ++ us) (ss ++ ts) := paired_app h k
theorem w_newOp {K : PySem.W.Frag} {H : Hp} {Q : VK} {w : Str} {x y : V} {a b : Tm} (ha : TmAt K H a x) (hb : TmAt K H b y) (k : ∀ p H', H p = none → Sm H H' → TmAt K H' (.op w a b) (.ref p) → Q (.ref p) H') : NewT [.str w, x, y] H Q :=
  w_newT (sz_of (Nat.le_of_ble_eq_true rfl)) fun p H' np sm g => k p H' np sm (tm_op g (ha.sm sm) (hb.sm sm))
theorem w_newS1 {K : PySem.W.Frag} {H : Hp} {Q : VK} {x : V} {s : SyW} (hs : SyAt K H x s) (k : ∀ p H' vs, H p = none → Sm H H' → H' p = some (.lst vs) → SysAt K H' vs [s] → vs.length = 1 → Q (.ref p) H') : NewL [x] H Q :=
  w_newL (sz_of (Nat.le_of_ble_eq_true rfl)) fun p H' np sm g => k p H' _ np sm g (.cons (hs.sm sm) .nil) rfl
theorem w_newS2 {K : PySem.W.Frag} {H : Hp} {Q : VK} {x y : V} {s t : SyW} (hs : SyAt K H x s) (ht : SyAt K H y t) (k : ∀ p H' vs, H p = none → Sm H H' → H' p = some (.lst vs) → SysAt K H' vs [s, t] → vs.length = 2 → Q (.ref p) H') : NewL [x, y] H Q :=
  w_newL (sz_of (Nat.le_of_ble_eq_true rfl)) fun p H' np sm g => k p H' _ np sm g (.cons (hs.sm sm) (.cons (ht.sm sm) .nil)) rfl
theorem w_appS {K : PySem.W.Frag} {H : Hp} {Q : VK} {l : Addr} {xs : List V} {ss : List SyW} {x : V} {s : SyW} (h : H l = some (.lst xs)) (hS : SysAt K H xs ss) (hs : SyAt K H x s) (z : xs.length ≤ 10000) (k : ∀ H' vs, Kp l H H' → H' l = some (.lst vs) → SysAt K H' vs (ss ++ [s]) → vs.length = xs.length + 1 → Q .non H') : rAppend (.ref l) [x] H Q :=
  w_app h (sz_lt (by omega)) fun H' kp g => k H' _ kp g ((hS.app (.cons hs .nil)).kpL h kp) (by rw [List.length_append]; rfl)
theorem w_extS {K : PySem.W.Frag} {H : Hp} {Q : VK} {l b : Addr} {xs ys : List V} {ss ts : List SyW} (h : H l = some (.lst xs)) (hS : SysAt K H xs ss) (hb : H b = some (.lst ys)) (hT : SysAt K H ys ts) (z : xs.length + ys.length ≤ 10000) (k : ∀ H' vs, Kp l H H' → H' l = some (.lst vs) → SysAt K H' vs (ss ++ ts) → vs.length = xs.length + ys.length → Q .non H') : rExtend (.ref l) [.ref b] H Q :=
  w_ext h hb (sz_of (by omega)) fun H' kp g => k H' _ kp g ((hS.app hT).kpL h kp) (by rw [List.length_append])
theorem w_catS {K : PySem.W.Frag} {H : Hp} {Q : VK} {l b : Addr} {xs ys : List V} {ss ts : List SyW} (h : H l = some (.lst xs)) (hS : SysAt K H xs ss) (hb : H b = some (.lst ys)) (hT : SysAt K H ys ts) (z : xs.length + ys.length ≤ 10000) (k : ∀ p H' vs, H p = none → Sm H H' → H' p = some (.lst vs) → SysAt K H' vs (ss ++ ts) → vs.length = xs.length + ys.length → Q (.ref p) H') : gAdd K (.ref l) (.ref b) H Q :=
  w_addL h hb (sz_of (by omega)) fun p H' np sm g => k p H' _ np sm g ((hS.app hT).sm sm) (by rw [List.length_append])
def NumAt (H : Hp) (n : Nat) (v : V) : Prop := ∀ K, TmAt K H (.num n) v
theorem NumAt.tm {K : PySem.W.Frag} {H : Hp} {n : Nat} {v : V} (h : NumAt H n v) : TmAt K H (.num n) v := h K
theorem w_newNu {H : Hp} {Q : VK} {n : Nat} (k : ∀ p H', H p = none → Sm H H' → NumAt H' n (.ref p) → Q (.ref p) H') : NewT [.str "num", .int ((n : Nat) : Int)] H Q :=
  w_newT (sz_of (Nat.le_of_ble_eq_true rfl)) fun p H' np sm g => k p H' np sm fun _ => tm_num g
theorem w_newNu1 {H : Hp} {Q : VK} {n : Nat} (k : ∀ p H', H p = none → Sm H H' → NumAt H' (n + 1) (.ref p) → Q (.ref p) H') : NewT [.str "num", .int ((n : Nat) + 1 : Int)] H Q :=
  w_newT (sz_of (Nat.le_of_ble_eq_true rfl)) fun p H' np sm g => k p H' np sm fun _ => tm_num g
local macro_rules | `(tactic| tm_at "rtm") => `(tactic| first | ((refine' NumAt.tm ?sa); (case sa => with_reducible assumption)) | fail "no")
local macro_rules | `(tactic| tm_at "rsy") => `(tactic| first | with_reducible assumption | ((refine' SyAt.sm ?sa ?sb); (case sb => with_reducible assumption); (case sa => tm_at "rsy")) | ((refine' SyAt.kpL ?sa ?sc ?sb); (case sb => with_reducible assumption); (case sc => tm_at "rlk"); (case sa => tm_at "rsy")) | fail "no")
local macro_rules | `(tactic| tm_at "rss") => `(tactic| first | with_reducible assumption | ((refine' SysAt.sm ?sa ?sb); (case sb => with_reducible assumption); (case sa => tm_at "rss")) | ((refine' SysAt.kpL ?sa ?sc ?sb); (case sb => with_reducible assumption); (case sc => tm_at "rlk"); (case sa => tm_at "rss")) | fail "no")
local macro_rules | `(tactic| tm_at "rs") => `(tactic| first | ((with_reducible refine' w_newOp ?h ?i (fun _ _ _ _ _ => ?k)); (case h => tm_at "rtm"); (case i => tm_at "rtm")) | ((with_reducible refine' w_newOp ?h ?i (fun _ _ _ _ _ => ?k)); (case i => tm_at "rtm"); (case h => tm_at "rtm")) | with_reducible refine w_newNu1 (fun _ _ _ _ _ => ?_) | with_reducible refine w_newNu (fun _ _ _ _ _ => ?_) | ((with_reducible refine' w_newS1 ?h (fun _ _ _ _ _ _ _ _ => ?k)); (case h => tm_at "rsy")) | ((with_reducible refine' w_newS2 ?h ?i (fun _ _ _ _ _ _ _ _ => ?k)); (case h => tm_at "rsy"); (case i => tm_at "rsy")) | ((with_reducible refine' w_appS ?h ?i ?j ?l (fun _ _ _ _ _ _ => ?k)); (case h => tm_at "rlk"); (case i => tm_at "rss"); (case j => tm_at "rsy"); (case l => omega)) | ((with_reducible refine' w_extS ?h ?i ?j ?l ?m (fun _ _ _ _ _ _ => ?k)); (case h => tm_at "rlk"); (case i => tm_at "rss"); (case j => tm_at "rlk"); (case l => tm_at "rss"); (case m => omega)) | ((with_reducible refine' w_catS ?h ?i ?j ?l ?m (fun _ _ _ _ _ _ _ _ => ?k)); (case h => tm_at "rlk"); (case i => tm_at "rss"); (case j => tm_at "rlk"); (case l => tm_at "rss"); (case m => omega)) | fail "no")
theorem SysAt.one {K : PySem.W.Frag} {H : Hp} {xs : List V} {ss : List SyW} {x : V} {s : SyW} (h : SysAt K H xs ss) (k : SyAt K H x s) : SysAt K H (xs ++ [x]) (ss ++ [s]) := h.app (.cons k .nil)
/-! what is said of a program -/
def same (a b : Tm) : SyW := (Str.ofString "same", a, b)
/-! terms as data: alike, shown -/
def tmD : Tm → PyData
  | .num n => .tuple [.str "num", .int (n : Int)]
  | .name s => .tuple [.str "name", .str s]
  | .op w a b => .tuple [.str w, tmD a, tmD b]
theorem TmAt.dpD {K : PySem.W.Frag} {H : Hp} : ∀ {t : Tm} {v : V}, TmAt K H t v → Dp K H v (tmD t)
  | .num n, _, ⟨_, rfl, q⟩ => .tup q.sq (.cons (.str _) (.cons (.int _) .nil))
  | .name s, _, ⟨_, rfl, q⟩ => .tup q.sq (.cons (.str _) (.cons (.str _) .nil))
  | .op w a b, _, ⟨_, _, _, rfl, q, r1, r2⟩ => .tup q.sq (.cons (.str _) (.cons (TmAt.dpD r1) (.cons (TmAt.dpD r2) .nil)))
/-- names and words are plain texts -/
def TmL : Tm → Prop
  | .num _ => True
  | .name s => PyData.strOk s = true
  | .op w a b => PyData.strOk w = true ∧ TmL a ∧ TmL b
theorem tmD_lay : ∀ {t : Tm}, TmL t → (tmD t).canLay0 = true
  | .num n, _ => by
    have h : PyData.strOk (Str.ofString "num") = true := by decide +kernel
    simp [tmD, PyData.canLay0, PyData.canLayAll0, h]
  | .name s, hs => by
    have h : PyData.strOk (Str.ofString "name") = true := by decide +kernel
    have hs : PyData.strOk s = true := hs
    simp [tmD, PyData.canLay0, PyData.canLayAll0, h, hs]
  | .op w a b, hs => by
    obtain ⟨h1, h2, h3⟩ := hs
    simp [tmD, PyData.canLay0, PyData.canLayAll0, tmD_lay h2, tmD_lay h3, h1]
theorem tmD_dep : ∀ t : Tm, (tmD t).depth ≤ t.dep + 1
  | .num n => by simp [tmD, PyData.depth, PyData.depthAll]
  | .name s => by simp [tmD, PyData.depth, PyData.depthAll]
  | .op w a b => by
    have h1 := tmD_dep a
    have h2 := tmD_dep b
    show (PyData.tuple [.str w, tmD a, tmD b]).depth ≤ max a.dep b.dep + 1 + 1
    simp only [PyData.depth, PyData.depthAll]
    omega
/-! long sums shown -/
def TmX : Tm → Prop
  | .num n => n < 10 ^ 12
  | .name s => PyData.strOk s = true ∧ s.length ≤ 20
  | .op w a b => (PyData.strOk w = true ∧ w.length ≤ 20) ∧ TmX a ∧ TmX b
theorem TmX.l : ∀ {t : Tm}, TmX t → TmL t
  | .num _, _ => trivial
  | .name _, h => h.1
  | .op _ _ _, ⟨h1, h2, h3⟩ => ⟨h1.1, h2.l, h3.l⟩
structure Shb (d : PyData) (N : Nat) : Prop where
  sh : d.showable = true
  nd : d.hasDict = false
  lv : d.leavesShort 20 = true
  bk : d.bulk ≤ N
theorem Shb.up {d : PyData} {n m : Nat} (h : Shb d n) (l : n ≤ m) : Shb d m := ⟨h.sh, h.nd, h.lv, Nat.le_trans h.bk l⟩
/-! lists of terms: shown, added, made longer -/
theorem TmsAt.one {K : PySem.W.Frag} {H : Hp} {vs : List V} {ts : List Tm} {v : V} {t : Tm} (h : TmsAt K H vs ts) (e : TmAt K H t v) : TmsAt K H (vs ++ [v]) (ts ++ [t]) := paired_app h (.cons e .nil)
theorem TmsAt.len {K : PySem.W.Frag} {H : Hp} {vs : List V} {ts : List Tm} (h : TmsAt K H vs ts) : vs.length = ts.length := paired_len h
theorem TmsAt.get {K : PySem.W.Frag} {H : Hp} {vs : List V} {ts : List Tm} (h : TmsAt K H vs ts) {i : Nat} {t : Tm} (e : ts[i]? = some t) : ∃ v, atI vs (i : Nat) = some v ∧ TmAt K H t v := by
  have hi := (List.getElem?_eq_some_iff.mp e).1
  have hv : i < vs.length := by rw [paired_len h]; exact hi
  obtain ⟨t', ht, q⟩ := paired_get h (List.getElem?_eq_getElem hv)
  rw [e] at ht
  cases ht
  exact ⟨_, atI_nat (List.getElem?_eq_getElem hv), q⟩
theorem w_newM1 {K : PySem.W.Frag} {H : Hp} {Q : VK} {x : V} {s : Tm} (hs : TmAt K H s x) (k : ∀ p H', H p = none → Sm H H' → H' p = some (.lst [x]) → TmsAt K H' [x] [s] → Q (.ref p) H') : NewL [x] H Q :=
  w_newL (sz_of (Nat.le_of_ble_eq_true rfl)) fun p H' np sm g => k p H' np sm g (.cons (hs.sm sm) .nil)
theorem w_newM2 {K : PySem.W.Frag} {H : Hp} {Q : VK} {x y : V} {s t : Tm} (hs : TmAt K H s x) (ht : TmAt K H t y) (k : ∀ p H', H p = none → Sm H H' → H' p = some (.lst [x, y]) → TmsAt K H' [x, y] [s, t] → Q (.ref p) H') : NewL [x, y] H Q :=
  w_newL (sz_of (Nat.le_of_ble_eq_true rfl)) fun p H' np sm g => k p H' np sm g (.cons (hs.sm sm) (.cons (ht.sm sm) .nil))
theorem w_appM {K : PySem.W.Frag} {H : Hp} {Q : VK} {l : Addr} {xs : List V} {ss : List Tm} {x : V} {s : Tm} (h : H l = some (.lst xs)) (hS : TmsAt K H xs ss) (hs : TmAt K H s x) (z : xs.length ≤ 10000) (k : ∀ H', Kp l H H' → H' l = some (.lst (xs ++ [x])) → TmsAt K H' (xs ++ [x]) (ss ++ [s]) → Q .non H') : rAppend (.ref l) [x] H Q :=
  w_app h (sz_lt (by omega)) fun H' kp g => k H' kp g ((hS.one hs).kpL h kp)
theorem w_catM {K : PySem.W.Frag} {H : Hp} {Q : VK} {l b : Addr} {xs ys : List V} {ss ts : List Tm} (h : H l = some (.lst xs)) (hS : TmsAt K H xs ss) (hb : H b = some (.lst ys)) (hT : TmsAt K H ys ts) (z : xs.length + ys.length ≤ 10000) (k : ∀ p H', H p = none → Sm H H' → H' p = some (.lst (xs ++ ys)) → TmsAt K H' (xs ++ ys) (ss ++ ts) → Q (.ref p) H') : gAdd K (.ref l) (.ref b) H Q :=
  w_addL h hb (sz_of (by omega)) fun p H' np sm g => k p H' np sm g ((show TmsAt K H (xs ++ ys) (ss ++ ts) from paired_app hS hT).sm sm)
local macro_rules | `(tactic| tm_at "rms") => `(tactic| first | with_reducible assumption | ((refine' TmsAt.sm ?sa ?sb); (case sb => with_reducible assumption); (case sa => tm_at "rms")) | ((refine' TmsAt.kpL ?sa ?sc ?sb); (case sb => with_reducible assumption); (case sc => tm_at "rlk"); (case sa => tm_at "rms")) | fail "no")
local macro_rules | `(tactic| tm_at "rs") => `(tactic| first | ((with_reducible refine' w_newM1 ?h (fun _ _ _ _ _ _ => ?k)); (case h => tm_at "rtm")) | ((with_reducible refine' w_newM2 ?h ?i (fun _ _ _ _ _ _ => ?k)); (case h => tm_at "rtm"); (case i => tm_at "rtm")) | ((with_reducible refine' w_appM ?h ?i ?j ?l (fun _ _ _ _ => ?k)); (case h => tm_at "rlk"); (case i => tm_at "rms"); (case j => tm_at "rtm"); (case l => first | omega | (simp only [List.length_cons, List.length_nil, List.length_append]; omega))) | ((with_reducible refine' w_catM ?h ?i ?j ?l ?m (fun _ _ _ _ _ _ => ?k)); (case h => tm_at "rlk"); (case i => tm_at "rms"); (case j => tm_at "rlk"); (case l => tm_at "rms"); (case m => first | omega | (simp only [List.length_cons, List.length_nil, List.length_append]; omega))) | fail "no")
/-! all the parts of a term, with how deep each stands -/
def Tm.leaf : Tm → Bool
  | .op _ _ _ => false
  | _ => true
/-- no sign of a step is that of a number or a name -/
def Tm.opw : Tm → Prop
  | .op w a b => w ≠ Str.ofString "num" ∧ w ≠ Str.ofString "name" ∧ a.opw ∧ b.opw
  | _ => True
def allT : Tm → Nat → List (Tm × Nat)
  | .op w a b, d => (.op w a b, d) :: (allT a (d + 1) ++ allT b (d + 1))
  | .num n, d => [(.num n, d)]
  | .name s, d => [(.name s, d)]
def allS : List (Tm × Nat) → List (Tm × Nat)
  | [] => []
  | s :: S => allT s.1 s.2 ++ allS S
def ptw : List (Tm × Nat) → Nat
  | [] => 0
  | s :: S => s.1.wt + ptw S
theorem ptw_len : ∀ S : List (Tm × Nat), S.length ≤ ptw S
  | [] => Nat.le_refl _
  | s :: S => by
    have h1 := ptw_len S
    have h2 := s.1.wt_pos
    show S.length + 1 ≤ s.1.wt + ptw S
    omega
def OpS (S : List (Tm × Nat)) : Prop := ∀ s ∈ S, s.1.opw
def PtAt (K : PySem.W.Frag) (H : Hp) (q : V) (s : Tm × Nat) : Prop := ∃ p x, q = .ref p ∧ H p = some (.tup [x, .int ((s.2 : Nat) : Int)]) ∧ TmAt K H s.1 x
theorem PtAt.imp {K : PySem.W.Frag} {H H' : Hp} {q : V} {s : Tm × Nat} (h : Tk H H') (r : PtAt K H q s) : PtAt K H' q s := by
  obtain ⟨p, x, e, k, t⟩ := r
  exact ⟨p, x, e, h _ _ k, t.imp h⟩
theorem PtAt.sm {K : PySem.W.Frag} {H H' : Hp} {q : V} {s : Tm × Nat} (r : PtAt K H q s) (e : Sm H H') : PtAt K H' q s := r.imp (Tk.sm e)
/-! drawn terms of many parts -/
def Tm.prt : Tm → Nat
  | .op _ a b => a.prt + b.prt + 1
  | _ => 1
theorem wt_prt : ∀ t : Tm, t.wt + 1 ≤ 2 * t.prt
  | .num _ => by show 1 + 1 ≤ 2 * 1; omega
  | .name _ => by show 1 + 1 ≤ 2 * 1; omega
  | .op _ a b => by
    have h1 := wt_prt a
    have h2 := wt_prt b
    show a.wt + b.wt + 2 + 1 ≤ 2 * (a.prt + b.prt + 1)
    omega
def W3 (w : Str) : Prop := w = Str.ofString "plus" ∨ w = Str.ofString "times" ∨ w = Str.ofString "power"
/-- of these names, numbers of four hundred figures -/
def TmB (ys : List Str) : Tm → Prop
  | .num n => n < 10 ^ 400
  | .name s => s ∈ ys
  | .op w a b => W3 w ∧ TmB ys a ∧ TmB ys b
theorem W3.ne {w : Str} (h : W3 w) : w ≠ Str.ofString "num" ∧ w ≠ Str.ofString "name" := by
  rcases h with rfl | rfl | rfl <;> exact ⟨by decide +kernel, by decide +kernel⟩
theorem TmB.opw {ys : List Str} : ∀ {t : Tm}, TmB ys t → t.opw
  | .num _, _ => trivial
  | .name _, _ => trivial
  | .op _ _ _, ⟨h, a, b⟩ => ⟨h.ne.1, h.ne.2, TmB.opw a, TmB.opw b⟩
theorem w3_mem {w : Str} (h : w ∈ ([Str.ofString "plus", Str.ofString "times", Str.ofString "power"] : List Str)) : W3 w := by
  simp only [List.mem_cons, List.not_mem_nil, or_false] at h
  exact h
theorem allT_len : ∀ (t : Tm) (d : Nat), (allT t d).length ≤ t.wt
  | .num _, _ => Nat.le_refl _
  | .name _, _ => Nat.le_refl _
  | .op w a b, d => by
    have h1 := allT_len a (d + 1)
    have h2 := allT_len b (d + 1)
    show ((Tm.op w a b, d) :: (allT a (d + 1) ++ allT b (d + 1))).length ≤ a.wt + b.wt + 2
    rw [List.length_cons, List.length_append]
    omega
theorem TmsAt.kpB {K : PySem.W.Frag} {H H' : Hp} {vs : List V} {ts : List Tm} {b : Addr} (h : TmsAt K H vs ts) (hb : BoxAt H b) (e : Kp b H H') : TmsAt K H' vs ts := paired_mono (fun _ _ q => TmAt.kpB q hb e) h
/-! the greatest, the sum, of a list or a tuple of numbers -/
def mxN (l : List Nat) : Nat := l.foldl max 0
theorem fold_max (l : List Nat) : ∀ a : Nat, l.foldl max a = max a (mxN l) := by
  unfold mxN
  induction l with
  | nil => intro a; simp
  | cons x l ih =>
    intro a
    rw [List.foldl_cons, List.foldl_cons, ih, ih (max 0 x)]
    omega
theorem mxN_cons (x : Nat) (l : List Nat) : mxN (x :: l) = max x (mxN l) := by
  show l.foldl max (max 0 x) = _
  rw [fold_max]
  omega
theorem mxN_le : ∀ {l : List Nat} {x : Nat}, x ∈ l → x ≤ mxN l
  | y :: l, x, h => by
    rw [mxN_cons]
    rcases List.mem_cons.mp h with rfl | h
    · omega
    · have := mxN_le h
      omega
theorem mxN_mem : ∀ {l : List Nat}, l ≠ [] → mxN l ∈ l
  | [x], _ => by
    have : mxN [x] = x := by rw [mxN_cons]; show max x 0 = x; omega
    rw [this]
    exact List.mem_cons_self
  | x :: y :: l, _ => by
    have ih := mxN_mem (l := y :: l) (by simp)
    rw [mxN_cons]
    by_cases h : mxN (y :: l) ≤ x
    · rw [Nat.max_eq_left h]; exact List.mem_cons_self
    · rw [Nat.max_eq_right (by omega)]; exact List.mem_cons_of_mem _ ih
theorem mxI_fold : ∀ (l : List Nat) (a : Nat), (l.map fun n => ((n : Nat) : Int)).foldl max ((a : Nat) : Int) = ((l.foldl max a : Nat) : Int)
  | [], _ => rfl
  | x :: l, a => by
    rw [List.map_cons, List.foldl_cons, List.foldl_cons, ← mxI_fold l (max a x)]
    congr 1
    omega
def rMxN (K : PySem.W.Frag) : List V → Hp → VK → Prop := fun vs H Q => ∃ a l, vs = [V.ref a] ∧ (SqL K H a (nV l) ∨ SqT K H a (nV l)) ∧ l ≠ [] ∧ Q (.int (mxN l : Nat)) H
theorem cr_mxN {X : Cx} {K : PySem.W.Frag} (hK : X.K = K) (hc : X.calm = true) (hu : X.A.units + 64 < cLine) : CallR X (.builtin "max") (rMxN K) := by
  subst hK
  intro pins s σ H vs us Q I r h
  obtain ⟨a, l, rfl, hs, hne, q⟩ := h
  obtain ⟨u, rfl, ru⟩ := vals1 r
  cases ru
  rcases hs with hs | hs
  · obtain ⟨its, rv, hl, _⟩ := I.list hs
    have hi := rv
    rw [show nV l = (l.map fun n => ((n : Nat) : Int)).map V.int by unfold nV; rw [List.map_map]; rfl] at hi
    refine max_raw (I.ok.hd hc) hl.isList hi.ints (by rw [List.length_map]; exact List.length_pos_iff.mpr hne) fun h' tk m t' hk h1 h2 => ?_
    obtain ⟨n, hn, rfl⟩ := List.mem_map.mp h1
    have e : n = mxN l := by
      have a := mxN_le hn
      have b := h2 _ (List.mem_map.mpr ⟨_, mxN_mem hne, rfl⟩)
      omega
    subst e
    exact ⟨.int _, H, I.kept hk, ⟨_, rfl⟩, q⟩
  · obtain ⟨its, rv, p, z⟩ := I.tuple hs
    cases l with
    | nil => exact absurd rfl hne
    | cons x l =>
      obtain ⟨as, hr⟩ := Dp.readsAll I (nD (x :: l)) (nV (x :: l)) its (TpL.dp _ _ (tpl_nat (H := H) _)) rv
      have hd : PyData.depthAll (nD (x :: l)) = 0 := by
        have : ∀ m : List Nat, PyData.depthAll (nD m) = 0 := by
          intro m
          induction m with
          | nil => rfl
          | cons y m ih => show PyData.depthAll (PyData.int y :: nD m) = 0; simp only [PyData.depthAll, PyData.depth, ih]; rfl
        exact this _
      refine PySem.W.max_tuple_data (I.ok.hd hc) p hr ⟨fun y hy z hz => ?_, fun y hy e => ?_⟩ ?_ fun i v h' tk bs hv rd hk => ?_
      · obtain ⟨n, _, rfl⟩ := List.mem_map.mp (show y ∈ (x :: l).map (fun t : Nat => PyData.int (t : Nat)) from hy)
        obtain ⟨m, _, rfl⟩ := List.mem_map.mp (show z ∈ (x :: l).map (fun t : Nat => PyData.int (t : Nat)) from hz)
        rfl
      · obtain ⟨n, _, rfl⟩ := List.mem_map.mp (show y ∈ (x :: l).map (fun t : Nat => PyData.int (t : Nat)) from hy)
        cases e
      · show X.A.units + 1 + PyData.depthAll (nD (x :: l)) < cLine
        rw [hd]
        omega
      · have e : PySem.W.maxD (.int ((x : Nat) : Int)) ((l.map fun n => ((n : Nat) : Int)).map .int) = .int ((mxN (x :: l) : Nat) : Int) := by
          rw [PySem.W.maxD_ints, mxI_fold, fold_max, mxN_cons]
        have e2 : nD l = (l.map fun n => ((n : Nat) : Int)).map .int := by
          unfold nD
          rw [List.map_map]
          rfl
        have rd : Reads h' v (PySem.W.maxD (.int ((x : Nat) : Int)) (nD l)) bs := rd
        rw [e2, e] at rd
        obtain ⟨t, rfl⟩ : ∃ t, v = .int ((mxN (x :: l) : Nat) : Int) t := by
          cases rd
          exact ⟨_, rfl⟩
        exact ⟨.int _, H, Inv.kept (t' := tk) I hk, ⟨_, rfl⟩, q⟩
theorem w_mxL {K : PySem.W.Frag} {H : Hp} {Q : VK} {a : Addr} {l : List Nat} (h : SqL K H a (nV l)) (n : l ≠ []) (k : Q (.int (mxN l : Nat)) H) : rMxN K [.ref a] H Q := ⟨a, l, rfl, .inl h, n, k⟩
/-! the least c -/
/-! a walk over a list or a tuple -/
theorem pi_or {X : Cx} {tg l : Expr} {t1 t2 : TI} (h1 : PI X tg l t1) (h2 : PI X tg l t2) : PI X tg l (fun σ H R => t1 σ H R ∨ t2 σ H R) := ⟨fun pins s σ H R I h => h.elim (fun h => h1.run pins s σ H R I h) (fun h => h2.run pins s σ H R I h)⟩
theorem w_isiTk {K : PySem.W.Frag} {H : Hp} {Q : VK} {a : Addr} {xs : List V} (h : SqT K H a xs) (k : Q (.bl true) H) : rIsi K [.ref a, .ty "tuple"] H Q := by
  rcases h with (h | ⟨o, h⟩) | ⟨o, its, n, h1, h2, _⟩
  · exact w_isiTup h k
  · exact ⟨_, _, _, _, _, rfl, .ty _, .fTuple h, kit_ty (by decide +kernel), k⟩
  · exact ⟨_, _, _, _, _, rfl, .ty _, .kTuple h1 h2, kit_ty (by decide +kernel), k⟩
theorem w_isiSt {K : PySem.W.Frag} {H : Hp} {Q : VK} {s : Str} (k : Q (.bl false) H) : rIsi K [.str s, .ty "tuple"] H Q := ⟨_, _, _, _, _, rfl, .ty _, .base (.str _), kit_ty (by decide +kernel), k⟩
theorem w_isiIt {K : PySem.W.Frag} {H : Hp} {Q : VK} {i : Int} (k : Q (.bl false) H) : rIsi K [.int i, .ty "tuple"] H Q := ⟨_, _, _, _, _, rfl, .ty _, .base (.int _), kit_ty (by decide +kernel), k⟩
theorem w_slTk {K : PySem.W.Frag} {H : Hp} {Q : VK} {a : Addr} {xs : List V} {lo hi : Option Int} (h : SqT K H a xs) (nw : ¬ (HT.sIx xs.length 0 lo = 0 ∧ HT.sIx xs.length xs.length hi = xs.length)) (k : ∀ p H', H p = none → Sm H H' → H' p = some (.tup (cutV xs lo hi)) → Q (.ref p) H') : gSl K (.ref a) lo hi H Q :=
  .inr ⟨a, xs, rfl, h, fun w => absurd w nw, fun _ p hp => k p _ hp (sm_new hp) upd_same⟩
theorem mxN_app : ∀ l m : List Nat, mxN (l ++ m) = max (mxN l) (mxN m)
  | [], m => by show mxN m = max 0 (mxN m); omega
  | x :: l, m => by
    rw [List.cons_append, mxN_cons, mxN_cons, mxN_app l m]
    omega
def mxA (l : List (Tm × Nat)) : Nat := mxN (l.map (·.2))
theorem mxA_app (l m : List (Tm × Nat)) : mxA (l ++ m) = max (mxA l) (mxA m) := by
  unfold mxA
  rw [List.map_append, mxN_app]
theorem mxA_cons (s : Tm × Nat) (l : List (Tm × Nat)) : mxA (s :: l) = max s.2 (mxA l) := by
  unfold mxA
  rw [List.map_cons, mxN_cons]
theorem TmAt.sq {K : PySem.W.Frag} {H : Hp} : ∀ {t : Tm} {v : V}, TmAt K H t v → ∃ p xs, v = .ref p ∧ SqT K H p xs
  | .num _, _, ⟨p, e, q⟩ => ⟨p, _, e, q.sq⟩
  | .name _, _, ⟨p, e, q⟩ => ⟨p, _, e, q.sq⟩
  | .op _ _ _, _, ⟨p, _, _, e, q, _⟩ => ⟨p, _, e, q.sq⟩
/-! sum(list, start=0); lists of the same objects compared -/
/-! two lists of the same objects -/
def rNeSameL : R2 := fun x y H Q => ∃ a b xs, x = .ref a ∧ y = .ref b ∧ H a = some (.lst xs) ∧ H b = some (.lst xs) ∧ (∀ v ∈ xs, ∃ p, v = V.ref p) ∧ Q (.bl false) H
theorem vals_refs : ∀ {xs : List V} {us vs : List Value}, (∀ v ∈ xs, ∃ p, v = V.ref p) → Vals xs us → Vals xs vs → us = vs
  | [], _, _, _, .nil, .nil => rfl
  | x :: xs, _, _, h, .cons r1 t1, .cons r2 t2 => by
    obtain ⟨p, rfl⟩ := h x List.mem_cons_self
    cases r1
    cases r2
    rw [vals_refs (fun v hv => h v (List.mem_cons_of_mem _ hv)) t1 t2]
theorem op_neSameL {X : Cx} (hu : X.A.units + 64 < cLine) : OpR X (compareOp .NotEq) rNeSameL := by
  intro pins s σ H x y v u Q I rx ry h
  obtain ⟨a, b, xs, rfl, rfl, ea, eb, hx, q⟩ := h
  cases rx
  cases ry
  obtain ⟨its, rv, hl, _⟩ := I.list (.inl (.inl ea))
  obtain ⟨its2, rv2, hl2, _⟩ := I.list (.inl (.inl eb))
  have e := vals_refs hx rv rv2
  subst e
  refine SeqAt.RcNeAt.lists (e := fun _ => true) hl.isList hl2.isList rfl (by omega) (fun j h1 h2 => SeqAt.EqAt.same _) X.prog X.w X.xe _ ?_
  rw [show (!(List.range its.toArray.size).all fun _ => true) = false by simp]
  exact ⟨.bl false, H, I, rfl, q⟩
theorem w_neSameL {H : Hp} {Q : VK} {a b : Addr} {xs : List V} (ha : H a = some (.lst xs)) (hb : H b = some (.lst xs)) (h : ∀ v ∈ xs, ∃ p, v = V.ref p) (k : Q (.bl false) H) : rNeSameL (.ref a) (.ref b) H Q := ⟨a, b, xs, rfl, rfl, ha, hb, h, k⟩
theorem w_cKw {r : List V → List V → Hp → VK → Prop} {t tk : TA} {σ : L2.St} {H : Hp} {Q : VK} (k : t σ H fun vs H1 => tk σ H1 fun zs H2 => r vs zs H2 Q) : tCKw r t tk σ H Q := k
local macro_rules | `(tactic| tm_at "rs") => `(tactic| with_reducible refine w_cKw ?_)
/-! list(a dict): its keys; a number of a dict otherwise -/
theorem WdOk.strOk {y : Str} (h : WdOk y) : PyData.strOk y = true := by
  unfold PyData.strOk
  rw [← Array.all_toList, List.all_eq_true]
  intro c hc
  have := h.low c hc
  exact decide_eq_true (by omega)
theorem W3.ok {w : Str} (h : W3 w) : PyData.strOk w = true := by
  rcases h with rfl | rfl | rfl <;> decide +kernel
theorem TmB.l {ys : List Str} (hy : ∀ y ∈ ys, WdOk y) : ∀ {t : Tm}, TmB ys t → TmL t
  | .num _, _ => trivial
  | .name s, h => (hy s h).strOk
  | .op _ _ _, ⟨h, a, b⟩ => ⟨h.ok, TmB.l hy a, TmB.l hy b⟩
theorem w_neTmD {K : PySem.W.Frag} {H : Hp} {Q : VK} {a b : V} {t : Tm} (h1 : TmAt K H t a) (h2 : TmAt K H t b) (l : TmL t) (d : t.dep ≤ 2900) (k : Q (.bl false) H) : rNeDD K a b H Q := by
  refine ⟨_, _, h1.dpD, h2.dpD, tmD_lay l, tmD_lay l, Nat.le_trans (tmD_dep t) (by omega), ?_⟩
  rw [PySem.SeqAt.eqv_refl _ (tmD_lay l)]
  exact k
def fullT (s : Str) : Nat → Tm
  | 0 => .name s
  | n + 1 => .op "plus" (fullT s n) (fullT s n)
theorem full_prt (s : Str) : ∀ n, (fullT s n).prt + 1 = 2 ^ (n + 1)
  | 0 => rfl
  | n + 1 => by
    have := full_prt s n
    rw [Nat.pow_succ]
    show (fullT s n).prt + (fullT s n).prt + 1 + 1 = _
    omega
theorem full_b {ys : List Str} {s : Str} (h : s ∈ ys) : ∀ n, TmB ys (fullT s n)
  | 0 => h
  | n + 1 => ⟨.inl rfl, full_b h n, full_b h n⟩
theorem sum_b {ys : List Str} : ∀ (l : List Tm) (a : Tm), TmB ys a → (∀ t ∈ l, TmB ys t) → TmB ys (l.foldl (fun a b => .op "plus" a b) a)
  | [], _, h, _ => h
  | x :: l, a, h, k => sum_b l _ ⟨.inl rfl, h, k x List.mem_cons_self⟩ fun t ht => k t (List.mem_cons_of_mem _ ht)
theorem sumT_b {ys : List Str} {l : List Tm} (k : ∀ t ∈ l, TmB ys t) : TmB ys (sumT l) := by
  cases l with
  | nil => show 0 < 10 ^ 400; exact Nat.pow_pos (by decide)
  | cons x l => exact sum_b l x (k x List.mem_cons_self) fun t ht => k t (List.mem_cons_of_mem _ ht)
theorem sum_dp {D : Nat} : ∀ (l : List Tm) (a : Tm) (n : Nat), a.dep ≤ D + n → (∀ t ∈ l, t.dep ≤ D) → (l.foldl (fun a b => Tm.op "plus" a b) a).dep ≤ D + n + l.length
  | [], a, n, h, _ => h
  | x :: l, a, n, h, k => by
    have h1 := k x List.mem_cons_self
    have := sum_dp l (.op "plus" a x) (n + 1) (by show max a.dep x.dep + 1 ≤ _; omega) fun t ht => k t (List.mem_cons_of_mem _ ht)
    rw [List.length_cons]
    show (l.foldl (fun a b => Tm.op "plus" a b) (.op "plus" a x)).dep ≤ _
    omega
theorem sumT_dp {D : Nat} {l : List Tm} (k : ∀ t ∈ l, t.dep ≤ D) : (sumT l).dep ≤ D + l.length := by
  cases l with
  | nil => exact Nat.zero_le _
  | cons x l =>
    have := sum_dp l x 0 (k x List.mem_cons_self) fun t ht => k t (List.mem_cons_of_mem _ ht)
    rw [List.length_cons]
    show (l.foldl (fun a b => Tm.op "plus" a b) x).dep ≤ _
    omega
def sp_f_law_box (K : PySem.W.Frag) : Sp := fun vs H Q E => ∃ (a : Addr) (ns : List Int) (i : Int), vs = [.ref a, .int i] ∧ SqL K H a (ns.map V.int) ∧ 0 ≤ i ∧ i ≤ 100000 ∧ ∀ b H', H b = none → Sm H H' → BoxAt H' b → Q (.ref b) H'
theorem call_box {K : PySem.W.Frag} {H : Hp} {Q : VK} {E : XK} {a : Addr} {ns : List Int} {i : Int} (hS : SqL K H a (ns.map V.int)) (h0 : 0 ≤ i) (h1 : i ≤ 100000) (k : ∀ b H', H b = none → Sm H H' → BoxAt H' b → Q (.ref b) H') : sp_f_law_box K [.ref a, .int i] H Q E := ⟨a, ns, i, rfl, hS, h0, h1, k⟩
local macro_rules | `(tactic| tm_at "rs") => `(tactic| ((with_reducible refine' call_box ?h ?i ?j (fun _ _ _ _ _ => ?k)); (case h => tm_at "rsq"); (case i => omega); (case j => omega)))
def sp_f_law_take (K : PySem.W.Frag) : Sp := fun vs H Q E => ∃ (b : Addr) (w : Int), vs = [.ref b, .int w] ∧ BoxAt H b ∧ Wd w ∧ ∀ d H', 0 ≤ d → d < w → Kp b H H' → BoxAt H' b → Q (.int d) H'
theorem call_take {K : PySem.W.Frag} {H : Hp} {Q : VK} {E : XK} {b : Addr} {w : Int} (hb : BoxAt H b) (hw : Wd w) (k : ∀ d H', 0 ≤ d → d < w → Kp b H H' → BoxAt H' b → Q (.int d) H') : sp_f_law_take K [.ref b, .int w] H Q E := ⟨b, w, rfl, hb, hw, k⟩
local macro_rules | `(tactic| tm_at "rwd") => `(tactic| first | assumption | (apply wd_of <;> omega) | exact ⟨by decide, by decide +kernel⟩ | ((refine' wd_two ?wa ?wb); (case wa => with_reducible assumption); (case wb => omega)) | solve_by_elim | fail "no")
local macro_rules | `(tactic| tm_at "rs") => `(tactic| ((with_reducible refine call_take ?h ?w (fun _ _ _ _ _ _ => ?_)); (case h => tm_at "rbx"); (case w => tm_at "rwd")))
def sp_f_law_words (K : PySem.W.Frag) : Sp := fun vs H Q E => ∃ (b : Addr) (m : Int), vs = [.ref b, .int m] ∧ BoxAt H b ∧ 0 ≤ m ∧ m ≤ 36 ∧ ∀ (p : Addr) (ys : List Str) (H' : Hp), H p = none → H' p = some (.lst (ys.map V.str)) → ys.length = m.toNat → ys.Nodup → (∀ y ∈ ys, WdOk y) → Kp b H H' → BoxAt H' b → Q (.ref p) H'
theorem call_words {K : PySem.W.Frag} {H : Hp} {Q : VK} {E : XK} {b : Addr} {m : Int} (hB : BoxAt H b) (m0 : 0 ≤ m) (m1 : m ≤ 36) (k : ∀ (p : Addr) (ys : List Str) (H' : Hp), H p = none → H' p = some (.lst (ys.map V.str)) → ys.length = m.toNat → ys.Nodup → (∀ y ∈ ys, WdOk y) → Kp b H H' → BoxAt H' b → Q (.ref p) H') : sp_f_law_words K [.ref b, .int m] H Q E := ⟨b, m, rfl, hB, m0, m1, k⟩
local macro_rules | `(tactic| tm_at "rs") => `(tactic| ((with_reducible refine call_words ?h ?i ?j (fun _ _ _ _ _ _ _ _ _ _ => ?_)); (case h => tm_at "rbx"); (case i => omega); (case j => omega)))
def sp_f_law_great (K : PySem.W.Frag) : Sp := fun vs H Q E => ∃ (b : Addr), vs = [.ref b] ∧ BoxAt H b ∧ ∀ (n : Nat) H', n < 10 ^ 400 → Kp b H H' → BoxAt H' b → Q (.int n) H'
theorem call_great {K : PySem.W.Frag} {H : Hp} {Q : VK} {E : XK} {b : Addr} (hB : BoxAt H b) (k : ∀ (n : Nat) H', n < 10 ^ 400 → Kp b H H' → BoxAt H' b → Q (.int n) H') : sp_f_law_great K [.ref b] H Q E := ⟨b, rfl, hB, k⟩
local macro_rules | `(tactic| tm_at "rs") => `(tactic| ((with_reducible refine call_great ?h (fun _ _ _ _ _ => ?_)); (case h => tm_at "rbx")))
def spR_f_law_term (K : PySem.W.Frag) : Nat → Sp
  | 0 => fun _ _ _ _ => False
  | m + 1 => fun vs H Q E => ∃ (b p : Addr) (ys : List Str) (r d : Int), vs = [.ref b, .ref p, .int r, .int d] ∧ BoxAt H b ∧ H p = some (.lst (ys.map V.str)) ∧ p ≠ b ∧ 1 ≤ ys.length ∧ ys.length ≤ 36 ∧ 1 ≤ r ∧ r ≤ 1000 ∧ d ≤ (m : Int) ∧ ∀ (v : V) (t : Tm) (H' : Hp), TmAt K H' t v → TmB ys t → t.prt ≤ r.toNat → t.dep ≤ d.toNat → Kp b H H' → BoxAt H' b → Q v H'
abbrev sp_f_law_term (K : PySem.W.Frag) : Sp := spR_f_law_term K 14
theorem call_termQ {K : PySem.W.Frag} {n : Nat} {H : Hp} {Q : VK} {E : XK} {b p : Addr} {ys : List Str} {r d : Int} (hB : BoxAt H b) (hP : H p = some (.lst (ys.map V.str))) (hpb : p ≠ b) (hy1 : 1 ≤ ys.length) (hy2 : ys.length ≤ 36) (r1 : 1 ≤ r) (r2 : r ≤ 1000) (hdm : d ≤ (n : Int)) (k : ∀ (v : V) (t : Tm) (H' : Hp), TmAt K H' t v → TmB ys t → t.prt ≤ r.toNat → t.dep ≤ d.toNat → Kp b H H' → BoxAt H' b → Q v H') : spR_f_law_term K (n + 1) [.ref b, .ref p, .int r, .int d] H Q E := ⟨b, p, ys, r, d, rfl, hB, hP, hpb, hy1, hy2, r1, r2, hdm, k⟩
def sp_f_law_long (K : PySem.W.Frag) : Sp := fun vs H Q E => ∃ (b p : Addr) (ys : List Str) (n : Int), vs = [.ref b, .ref p, .int n] ∧ BoxAt H b ∧ H p = some (.lst (ys.map V.str)) ∧ p ≠ b ∧ 1 ≤ ys.length ∧ ys.length ≤ 36 ∧ 0 ≤ n ∧ n ≤ 200 ∧ ∀ (v : V) (t : Tm) (H' : Hp), TmAt K H' t v → TmB ys t → t.prt ≤ 1 + 2 * n.toNat → t.dep ≤ n.toNat → Kp b H H' → BoxAt H' b → Q v H'
theorem call_long {K : PySem.W.Frag} {H : Hp} {Q : VK} {E : XK} {b p : Addr} {ys : List Str} {n : Int} (hB : BoxAt H b) (hP : H p = some (.lst (ys.map V.str))) (hpb : p ≠ b) (hy1 : 1 ≤ ys.length) (hy2 : ys.length ≤ 36) (n0 : 0 ≤ n) (n1 : n ≤ 200) (k : ∀ (v : V) (t : Tm) (H' : Hp), TmAt K H' t v → TmB ys t → t.prt ≤ 1 + 2 * n.toNat → t.dep ≤ n.toNat → Kp b H H' → BoxAt H' b → Q v H') : sp_f_law_long K [.ref b, .ref p, .int n] H Q E := ⟨b, p, ys, n, rfl, hB, hP, hpb, hy1, hy2, n0, n1, k⟩
def sp_f_is_leaf (K : PySem.W.Frag) : Sp := fun vs H Q E => ∃ (v : V) (t : Tm), vs = [v] ∧ TmAt K H t v ∧ t.opw ∧ ∀ H', Sm H H' → Q (.bl t.leaf) H'
theorem call_isLeaf {K : PySem.W.Frag} {H : Hp} {Q : VK} {E : XK} {v : V} {t : Tm} (hv : TmAt K H t v) (ho : t.opw) (k : ∀ H', Sm H H' → Q (.bl t.leaf) H') : sp_f_is_leaf K [v] H Q E := ⟨v, t, rfl, hv, ho, k⟩
def sp_f_all_in (K : PySem.W.Frag) : Sp := fun vs H Q E => ∃ (v : V) (t : Tm), vs = [v] ∧ TmAt K H t v ∧ t.opw ∧ t.wt ≤ 9000 ∧ ∀ p vs H', H p = none → Sm H H' → H' p = some (.lst vs) → Paired (PtAt K H') vs (allT t 0) → Q (.ref p) H'
theorem call_allIn9 {K : PySem.W.Frag} {H : Hp} {Q : VK} {E : XK} {v : V} {t : Tm} (hv : TmAt K H t v) (ho : t.opw) (hw : t.wt ≤ 9000) (k : ∀ p vs H', H p = none → Sm H H' → H' p = some (.lst vs) → Paired (PtAt K H') vs (allT t 0) → Q (.ref p) H') : sp_f_all_in K [v] H Q E := ⟨v, t, rfl, hv, ho, hw, k⟩
def sp_f_parts (K : PySem.W.Frag) : Sp := fun vs H Q E => ∃ (v : V) (t : Tm), vs = [v] ∧ TmAt K H t v ∧ t.opw ∧ t.wt ≤ 9000 ∧ ∀ H', Sm H H' → Q (.int (allT t 0).length) H'
theorem call_parts {K : PySem.W.Frag} {H : Hp} {Q : VK} {E : XK} {v : V} {t : Tm} (hv : TmAt K H t v) (ho : t.opw) (hw : t.wt ≤ 9000) (k : ∀ H', Sm H H' → Q (.int (allT t 0).length) H') : sp_f_parts K [v] H Q E := ⟨v, t, rfl, hv, ho, hw, k⟩
def sp_f_deep (K : PySem.W.Frag) : Sp := fun vs H Q E => ∃ (v : V) (t : Tm), vs = [v] ∧ TmAt K H t v ∧ t.opw ∧ t.wt ≤ 9000 ∧ ∀ H', Sm H H' → Q (.int (mxN ((allT t 0).map (·.2)) : Nat)) H'
theorem call_deep {K : PySem.W.Frag} {H : Hp} {Q : VK} {E : XK} {v : V} {t : Tm} (hv : TmAt K H t v) (ho : t.opw) (hw : t.wt ≤ 9000) (k : ∀ H', Sm H H' → Q (.int (mxN ((allT t 0).map (·.2)) : Nat)) H') : sp_f_deep K [v] H Q E := ⟨v, t, rfl, hv, ho, hw, k⟩
def sp_f_sum_of (K : PySem.W.Frag) : Sp := fun vs H Q E => ∃ (p : Addr) (xs : List V) (ts : List Tm), vs = [.ref p] ∧ (H p = some (.lst xs) ∨ H p = some (.tup xs)) ∧ TmsAt K H xs ts ∧ ∀ v H', Sm H H' → TmAt K H' (sumT ts) v → Q v H'
theorem call_sumOf {K : PySem.W.Frag} {H : Hp} {Q : VK} {E : XK} {p : Addr} {xs : List V} {ts : List Tm} (hp : H p = some (.lst xs)) (hx : TmsAt K H xs ts) (k : ∀ v H', Sm H H' → TmAt K H' (sumT ts) v → Q v H') : sp_f_sum_of K [.ref p] H Q E := ⟨p, xs, ts, rfl, .inl hp, hx, k⟩
theorem call_sumOfT {K : PySem.W.Frag} {H : Hp} {Q : VK} {E : XK} {p : Addr} {xs : List V} {ts : List Tm} (hp : H p = some (.tup xs)) (hx : TmsAt K H xs ts) (k : ∀ v H', Sm H H' → TmAt K H' (sumT ts) v → Q v H') : sp_f_sum_of K [.ref p] H Q E := ⟨p, xs, ts, rfl, .inr hp, hx, k⟩
def sp_f_law_walked (K : PySem.W.Frag) : Sp := fun vs H Q E => ∃ (v : V) (t : Tm), vs = [v] ∧ TmAt K H t v ∧ t.wt ≤ 9000 ∧ ∀ p H', H' p = some (.tup [.int (allT t 0).length, .int (mxA (allT t 0) : Nat)]) → Sm H H' → Q (.ref p) H'
theorem call_walked {K : PySem.W.Frag} {H : Hp} {Q : VK} {E : XK} {v : V} {t : Tm} (hv : TmAt K H t v) (hw : t.wt ≤ 9000) (k : ∀ p H', H' p = some (.tup [.int (allT t 0).length, .int (mxA (allT t 0) : Nat)]) → Sm H H' → Q (.ref p) H') : sp_f_law_walked K [v] H Q E := ⟨v, t, rfl, hv, hw, k⟩
def sp_f_law_whole (K : PySem.W.Frag) : Sp := fun vs H Q E => ∃ (n : Int), vs = [.int n] ∧ Q (.bl true) H
theorem call_whole {K : PySem.W.Frag} {H : Hp} {Q : VK} {E : XK} {n : Int} (k : Q (.bl true) H) : sp_f_law_whole K [.int n] H Q E := ⟨n, rfl, k⟩
local macro_rules | `(tactic| tm_at "rs") => `(tactic| with_reducible refine call_whole ?_)
def sp_f_law (K : PySem.W.Frag) : Sp := fun vs H Q E => ∃ (a : Addr) (ns : List Int), vs = [.ref a] ∧ SqF K H a (ns.map V.int) ∧ ns.length ≤ 63 ∧ ∀ H', Q (.bl true) H'
section
variable {P : Program} {w : World} {K : PySem.W.Frag} {mg : Str → Option Value} {base : Heap}
/-! ### _law_box -/
theorem ok_f_law_box {f : Addr} {fd : FuncData} (F : Fun K "_law_box" "_law_box" s_f_law_box f fd)
    (m_len : mg "len" = none)
    (m_int : mg "int" = none) :
    FnG P w K mg base CX0 1 f fd ["script", "k"] (sp_f_law_box K) := by
  refine okG F sc_f_law_box (fun vs H Q E h => ?_) (fun cdv A outer s H vs Q E hr h => ⟨_, (pss_cons (ps_set (i := 2) sc_f_law_box.nd rfl (by first | exact Or.inl rfl | exact Or.inr rfl) (pe_op (op_gAdd (K := K) rfl) (pe_op op_gMul pe_int (pv 1)) pe_int))
    (pss_cons (ps_if (pt_cmpR op_gLt (pv 1) (pe_callB (call_gLen (K := K) rfl) (by rfl) m_len PySem.boot_len (pa_cons (pv 0) pa_nil)) (nomark _)) (pss_one (ps_set (i := 2) sc_f_law_box.nd rfl (by first | exact Or.inl rfl | exact Or.inr rfl) (pe_ix (ix_g (K := K) rfl) (pv 0) (pv 1) (fun _ _ => rfl)))) (pss_one (ps_if (pt_cmpR op_gGt (pe_callB (call_gLen (K := K) rfl) (by rfl) m_len PySem.boot_len (pa_cons (pv 0) pa_nil)) pe_int (nomark _)) (pss_one (ps_set (i := 2) sc_f_law_box.nd rfl (by first | exact Or.inl rfl | exact Or.inr rfl) (pe_op (op_gAdd (K := K) rfl) (pv 2) (pe_op op_gMul (pe_op op_gMod (pe_ix (ix_g (K := K) rfl) (pv 0) (pe_op op_gMod (pv 1) (pe_callB (call_gLen (K := K) rfl) (by rfl) m_len PySem.boot_len (pa_cons (pv 0) pa_nil))) (fun _ _ => rfl)) pe_int) pe_int)))) pss_nil)))
    (pss_cons (ps_set (i := 3) sc_f_law_box.nd rfl (by first | exact Or.inl rfl | exact Or.inr rfl) (pe_op (op_gAdd (K := K) rfl) (pe_op op_gMod (pe_op (op_gAdd (K := K) rfl) (pe_op op_gMul (pe_op op_gMod (pv 2) pe_int) pe_int) (pe_op op_gMul pe_int (pv 1))) pe_int) pe_int))
    (pss_one (ps_ret (pe_lst (pa_cons (pe_ix (ix_g (K := K) rfl) (pe_lst (pa_cons pe_int (pa_cons (pv 2) pa_nil))) (pe_callTy call_gInt (by rfl) m_int PyProof.Rows.boot_int (pa_cons (pe_cmpR op_gGe (pv 2) (pe_op op_gPow pe_int pe_int) (nomark _)) pa_nil)) (fun _ _ => rfl)) (pa_cons (pv 3) pa_nil)))))))), ?_⟩)
  · obtain ⟨_, _, _, rfl, _⟩ := h
    rfl
  · obtain ⟨a, ns, i, rfl, hS, h0, h1, k⟩ := h
    try dsimp only [cxOf, Cx.nox, Cx.wish]
    change (_ : L2.TS) _ [some (.ref a), some (.int i), none, none] _
    refine w_start ?_
    have big : (0 : Int) ≤ 10 ^ Int.toNat 18 := by decide
    repeat' (tm_at "rs")
    · refine w_ixInts hS h0 (by assumption) (fun n _ => ?_)
      repeat' (tm_at "rs")
      all_goals refine k _ _ ?_ ?_ ⟨_, _, by assumption, by omega, by omega, by omega⟩
      all_goals tm_at "rz"
    · rename_i z z1 z2 z3 z4
      refine w_ixInts hS z2 z3 (fun n _ => ?_)
      repeat' (tm_at "rs")
      all_goals refine k _ _ ?_ ?_ ⟨_, _, by assumption, by omega, by omega, by omega⟩
      all_goals tm_at "rz"
    all_goals refine k _ _ ?_ ?_ ⟨_, _, by assumption, by omega, by omega, by omega⟩
    all_goals tm_at "rz"
/-! ### _law_take -/
theorem ok_f_law_take {f : Addr} {fd : FuncData} (F : Fun K "_law_take" "_law_take" s_f_law_take f fd) :
    FnG P w K mg base CX0 1 f fd ["box", "wide"] (sp_f_law_take K) := by
  refine okG F sc_f_law_take (fun vs H Q E h => ?_) (fun cdv A outer s H vs Q E hr h => ⟨_, (pss_cons (ps_if (pt_cmpR op_gGt (pe_ix (ix_g (K := K) rfl) (pv 0) pe_int (fun _ _ => rfl)) pe_int (nomark _)) (pss_cons (ps_set (i := 2) sc_f_law_take.nd rfl (by first | exact Or.inl rfl | exact Or.inr rfl) (pe_op op_gMod (pe_ix (ix_g (K := K) rfl) (pv 0) pe_int (fun _ _ => rfl)) (pv 1)))
    (pss_cons (ps_asg (pe_op op_gDiv (pe_ix (ix_g (K := K) rfl) (pv 0) pe_int (fun _ _ => rfl)) (pv 1)) (pg_sub (pv 0) pe_int set_list))
    (pss_one (ps_ret (pv 2))))) pss_nil)
    (pss_cons (ps_set (i := 3) sc_f_law_take.nd rfl (by first | exact Or.inl rfl | exact Or.inr rfl) (pe_op op_gMod (pe_op op_gMul (pe_ix (ix_g (K := K) rfl) (pv 0) pe_int (fun _ _ => rfl)) pe_int) pe_int))
    (pss_cons (ps_asg (pe_op (op_gAdd (K := K) rfl) (pe_op op_gMod (pe_op (op_gAdd (K := K) rfl) (pe_op op_gMul (pv 3) pe_int) pe_int) pe_int) pe_int) (pg_sub (pv 0) pe_int set_list))
    (pss_one (ps_ret (pe_op op_gMod (pe_op op_gDiv (pe_op (op_gAdd (K := K) rfl) (pe_op op_gMul (pv 3) pe_int) (pe_ix (ix_g (K := K) rfl) (pv 0) pe_int (fun _ _ => rfl))) pe_int) (pv 1))))))), ?_⟩)
  · obtain ⟨_, _, rfl, _⟩ := h
    rfl
  · obtain ⟨b, w, rfl, hB, hw, k⟩ := h
    try dsimp only [cxOf, Cx.nox, Cx.wish]
    change (_ : L2.TS) _ [some (.ref b), some (.int w), none, none] _
    refine w_start ?_
    obtain ⟨x, s, hb, hx, hs, hs2⟩ := hB
    obtain ⟨hw0, hw1⟩ := hw
    repeat' (tm_at "rs")
    · refine k _ _ (by omega) (by omega) (by assumption) ⟨_, _, by assumption, ?_, hs, hs2⟩
      exact Int.ediv_nonneg hx (by omega)
    · refine k _ _ (by omega) (by omega) (by assumption) ⟨_, _, by assumption, hx, ?_, ?_⟩
      · omega
      · omega
/-! ### _law_words -/
theorem ok_f_law_words {f : Addr} {fd : FuncData} (F : Fun K "_law_words" "_law_words" s_f_law_words f fd)
    (D_f_law_take : Def P w K mg base CX0 "_law_take" 1 ["box", "wide"] (sp_f_law_take K))
    (m_range : mg "range" = none)
    (m_len : mg "len" = none) :
    FnG P w K mg base CX0 2 f fd ["box", "many"] (sp_f_law_words K) := by
  refine okG F sc_f_law_words (fun vs H Q E h => ?_) (fun cdv A outer s H vs Q E hr h => ⟨_, (pss_cons (ps_set (i := 2) sc_f_law_words.nd rfl (by first | exact Or.inl rfl | exact Or.inr rfl) pe_str)
    (pss_cons (ps_set (i := 3) sc_f_law_words.nd rfl (by first | exact Or.inl rfl | exact Or.inr rfl) (pe_ix (ix_g (K := K) rfl) (pv 2) (pe_f D_f_law_take (hr.mono (by omega)) (by rfl) pass0 (pa_cons (pv 0) (pa_cons pe_int pa_nil))) (fun _ _ => rfl)))
    (pss_cons (ps_set (i := 4) sc_f_law_words.nd rfl (by first | exact Or.inl rfl | exact Or.inr rfl) (pe_join pe_str (pe_lc (own := _) rfl sc_f_law_words.nd (pi_range1 (by rfl) m_range (pa_cons (pe_f D_f_law_take (hr.mono (by omega)) (by rfl) pass0 (pa_cons (pv 0) (pa_cons pe_int pa_nil))) pa_nil)) (blkOk_by (own := [("k", 5)]) (N := ["box", "many", "signs", "first", "stem", "k", "at", "turn"]) (sc := defScope s_f_law_words) (by decide +kernel)) (fun _ _ _ _ _ => (pg_name (i := 5) sc_f_law_words.nd rfl (by first | exact Or.inl rfl | exact Or.inr rfl))) (fun _ _ _ _ _ => pts_nil) (fun _ _ _ _ _ => (pe_ix (ix_g (K := K) rfl) (pv 2) (pe_f D_f_law_take (hr.mono (by omega)) (by rfl) pass0 (pa_cons (pv 0) (pa_cons pe_int pa_nil))) (fun _ _ => rfl))))))
    (pss_cons (ps_asg (pe_tup (pa_cons (pe_f D_f_law_take (hr.mono (by omega)) (by rfl) pass0 (pa_cons (pv 0) (pa_cons (pe_op (op_gAdd (K := K) rfl) (pe_callB (call_gLen (K := K) rfl) (by rfl) m_len PySem.boot_len (pa_cons (pv 4) pa_nil)) pe_int) pa_nil))) (pa_cons (pe_f D_f_law_take (hr.mono (by omega)) (by rfl) pass0 (pa_cons (pv 0) (pa_cons pe_int pa_nil))) pa_nil))) (pg_gt (K := K) (n := 2) rfl rfl (pgs_cons (pg_name (i := 6) sc_f_law_words.nd rfl (by first | exact Or.inl rfl | exact Or.inr rfl)) (pgs_cons (pg_name (i := 7) sc_f_law_words.nd rfl (by first | exact Or.inl rfl | exact Or.inr rfl)) pgs_nil))))
    (pss_one (ps_ret (pe_lc (own := _) rfl sc_f_law_words.nd (pi_range1 (by rfl) m_range (pa_cons (pv 1) pa_nil)) (blkOk_by (own := [("k", 5)]) (N := ["box", "many", "signs", "first", "stem", "k", "at", "turn"]) (sc := defScope s_f_law_words) (by decide +kernel)) (fun _ _ _ _ _ => (pg_name (i := 5) sc_f_law_words.nd rfl (by first | exact Or.inl rfl | exact Or.inr rfl))) (fun _ _ _ _ _ => pts_nil) (fun _ _ _ _ _ => (pe_op (op_gAdd (K := K) rfl) (pe_op (op_gAdd (K := K) rfl) (pe_op (op_gAdd (K := K) rfl) (pv 3) (pe_slice sl_str (pv 4) po_none (po_some (pv 6)))) (pe_ix (ix_g (K := K) rfl) (pv 2) (pe_op op_gMod (pe_op (op_gAdd (K := K) rfl) (pv 7) (pe_op op_gMul pe_int (pv 5))) pe_int) (fun _ _ => rfl))) (pe_slice sl_str (pv 4) (po_some (pv 6)) po_none)))))))))), ?_⟩)
  · obtain ⟨_, _, rfl, _⟩ := h
    rfl
  · obtain ⟨b, m, rfl, hB, m0, m1, k⟩ := h
    try dsimp only [cxOf, Cx.nox, Cx.wish]
    change (_ : L2.TS) _ [some (.ref b), some (.int m), none, none, none, none, none, none] _
    refine w_start ?_
    have hsl : (Str.ofString "abcdefghijklmnopqrstuvwxyz0123456789").length = 36 := by decide +kernel
    repeat' (tm_at "rs")
    rename_i h0 H1 a0 a1 kp1 bx1 c hc w H2 w0 w1 kp2 bx2
    have hc' : sgL[h0.toNat]? = some c := hc
    have hcl := sgL_let (by omega) hc'
    refine lcR (fun D i H' => ∃ cs : List Nat, H' D = some (.lst ((cs.map sg).map V.str)) ∧ cs.length = i ∧ (∀ x ∈ cs, NmC x) ∧ Kp b H2 H' ∧ BoxAt H' b) ?_ ?_ ?_
    · intro D H' nD sm hD
      exact ⟨[], hD, rfl, (by intro x h; cases h), by tm_at "rkp", by tm_at "rbx"⟩
    · rintro D i H' nD hi ⟨cs, hD, hl, hlow, hk, hb⟩
      have hz : ((cs.map sg).map V.str).length ≤ 100 := by rw [List.length_map, List.length_map]; omega
      repeat' (tm_at "rs")
      rename_i d H5 d0 d1 kp5 bx5 c2 hc2 H6 kp6 g6
      refine ⟨cs ++ [c2], by rw [List.map_append, List.map_append]; exact g6, by rw [List.length_append, hl]; rfl, ?_, by tm_at "rkp", by tm_at "rbx"⟩
      intro x hx
      rcases List.mem_append.mp hx with hx | hx
      · exact hlow x hx
      · rw [List.mem_singleton.mp hx]
        exact sgL_ok _ (List.mem_of_getElem? hc2)
    · rintro D H3 nD ⟨cs, hD, hl, hlow, hk, hb⟩
      refine w_joinE (sq_of hD) (fun y hy => ?_) (by rw [List.length_map]; omega) ?_
      · obtain ⟨x, _, rfl⟩ := List.mem_map.mp hy
        rfl
      have hst := join_sg cs
      have hzl : (Txt.join (Str.ofString "") (cs.map sg)).length ≤ 8 := by
        rw [← tl_len, hst]
        omega
      have hzw : ∀ x ∈ (Txt.join (Str.ofString "") (cs.map sg)).cps.toList, NmC x := fun x hx => by
        rw [hst] at hx
        exact hlow x hx
      generalize Txt.join (Str.ofString "") (cs.map sg) = z at *
      repeat' (tm_at "rs")
      rename_i at1 H4 t0 t1 kp4 bx4 tn H5 u0 u1 kp5 bx5 tp H6 ntp stp gtp
      have hfc : (⟨#[c]⟩ : Str).cps.toList = [c] := rfl
      refine lcR (fun D i H' => H' D = some (.lst (((List.range i).map (wdF ⟨#[c]⟩ (cutS z none (some at1)) (cutS z (some at1) none) tn)).map V.str)) ∧ Sm H6 H') ?_ ?_ ?_
      · intro D H' nD sm hD
        exact ⟨hD, sm⟩
      · rintro D i H' nD hi ⟨hD, sm⟩
        have hz : (((List.range i).map (wdF ⟨#[c]⟩ (cutS z none (some at1)) (cutS z (some at1) none) tn)).map V.str).length ≤ 100 := by rw [List.length_map, List.length_map, List.length_range]; omega
        repeat' (tm_at "rs")
        rename_i cl1 c2 hc2 cl2 H7 k7 g7
        have hc2 : sgL[((tn + 5 * (0 + (i : Int))) % 36).toNat]? = some c2 := hc2
        refine ⟨?_, by tm_at "rsm"⟩
        rw [List.range_succ, List.map_append, List.map_append]
        refine g7.trans ?_
        show _ = some (HO.lst (_ ++ [V.str (wdF _ _ _ tn i)]))
        unfold wdF
        rw [Int.zero_add] at hc2
        rw [List.getD_eq_getElem?_getD, hc2]
        rfl
      · rintro D H' nD ⟨hD, sm⟩
        have hcut : (cutS z none (some at1)).length + (cutS z (some at1) none).length ≤ 8 := cut_two t0 (by omega) hzl
        repeat' (tm_at "rs")
        refine k D _ H' (by tm_at "rfr") hD (by rw [List.length_map, List.length_range]) (nodup_mapF fun i hi j hj e => wdF_inj (by omega) (by omega) e) (fun y hy => ?_) (by tm_at "rkp") (by tm_at "rbx")
        obtain ⟨i, _, rfl⟩ := List.mem_map.mp hy
        exact wd_ok hfc hcl (cut_al hzw _ _) (cut_al hzw _ _) hcut
/-! ### _law_great -/
theorem ok_f_law_great {f : Addr} {fd : FuncData} (F : Fun K "_law_great" "_law_great" s_f_law_great f fd)
    (D_f_law_take : Def P w K mg base CX0 "_law_take" 1 ["box", "wide"] (sp_f_law_take K))
    (m_int : mg "int" = none)
    (m_str : mg "str" = none)
    (z_nd : NoDig K) :
    FnG P w K mg base CX0 2 f fd ["box"] (sp_f_law_great K) := by
  refine okG F sc_f_law_great (fun vs H Q E h => ?_) (fun cdv A outer s H vs Q E hr h => ⟨_, (pss_cons (ps_set (i := 1) sc_f_law_great.nd rfl (by first | exact Or.inl rfl | exact Or.inr rfl) (pe_f D_f_law_take (hr.mono (by omega)) (by rfl) pass0 (pa_cons (pv 0) (pa_cons pe_int pa_nil))))
    (pss_cons (ps_if (pt_cmpR op_gLt (pv 1) pe_int (nomark _)) (pss_one (ps_ret (pe_f D_f_law_take (hr.mono (by omega)) (by rfl) pass0 (pa_cons (pv 0) (pa_cons pe_int pa_nil))))) pss_nil)
    (pss_cons (ps_if (pt_cmpR op_gLt (pv 1) pe_int (nomark _)) (pss_one (ps_ret (pe_f D_f_law_take (hr.mono (by omega)) (by rfl) pass0 (pa_cons (pv 0) (pa_cons (pe_op op_gPow pe_int pe_int) pa_nil))))) pss_nil)
    (pss_one (ps_ret (pe_callTy (call_intText z_nd) (by rfl) m_int PyProof.Rows.boot_int (pa_cons (pe_op (op_gAdd (K := K) rfl) (pe_callTy call_gStrB (by rfl) m_str PyProof.Rows.boot_str (pa_cons (pe_op (op_gAdd (K := K) rfl) pe_int (pe_f D_f_law_take (hr.mono (by omega)) (by rfl) pass0 (pa_cons (pv 0) (pa_cons pe_int pa_nil)))) pa_nil)) (pe_op op_gMulS (pe_callTy call_gStrB (by rfl) m_str PyProof.Rows.boot_str (pa_cons (pe_f D_f_law_take (hr.mono (by omega)) (by rfl) pass0 (pa_cons (pv 0) (pa_cons pe_int pa_nil))) pa_nil)) pe_int)) pa_nil))))))), ?_⟩)
  · obtain ⟨_, rfl, _⟩ := h
    rfl
  · obtain ⟨b, rfl, hB, k⟩ := h
    try dsimp only [cxOf, Cx.nox, Cx.wish]
    change (_ : L2.TS) _ [some (.ref b), none] _
    refine w_start ?_
    have p18 : (10 : Int) ^ Int.toNat 18 = 1000000000000000000 := by decide
    have big : 1000000000000000000 < 10 ^ 400 := by decide +kernel
    obtain ⟨T, hT⟩ : ∃ T : Nat, T = 10 ^ 400 := ⟨_, rfl⟩
    rw [← hT] at big k
    repeat' (tm_at "rs")
    · rename_i f H1 f0 f1 k1 b1 f2 w H2 w0 w1 k2 b2
      obtain ⟨w, rfl⟩ := Int.eq_ofNat_of_zero_le w0
      exact k w H2 (by omega) (by tm_at "rkp") (by tm_at "rbx")
    · rename_i f H1 f0 f1 k1 b1 f2 f3 w H2 w0 w1 k2 b2
      obtain ⟨w, rfl⟩ := Int.eq_ofNat_of_zero_le w0
      exact k w H2 (by omega) (by tm_at "rkp") (by tm_at "rbx")
    · rename_i f H1 f0 f1 k1 b1 f2 f3 w H2 w0 w1 k2 b2
      refine w_strD (by omega) (by omega) ?_
      repeat' (tm_at "rs")
      rename_i u H3 u0 u1 k3 b3
      refine w_strD (by omega) (by omega) ?_
      repeat' (tm_at "rs")
      refine w_mulS (i := 399) (great_ok _) ?_
      obtain ⟨n, hn, hlt, hl⟩ := great_text (a := (1 + w).toNat) (b := u.toNat) (by omega) (by omega)
      have z : (sg (48 + (1 + w).toNat)).length + (Txt.mul (sg (48 + u.toNat)) 399).length ≤ 100000 := by
        rw [app_len] at hl
        omega
      rw [← hT] at hlt
      generalize Txt.mul (sg (48 + u.toNat)) 399 = B at *
      generalize sg (48 + (1 + w).toNat) = A at *
      have hl2 : (A ++ B).length ≤ 100000 := by omega
      repeat' (tm_at "rs")
      refine w_intText hn (sz_of hl2) ?_
      repeat' (tm_at "rs")
      exact k n _ hlt (by tm_at "rkp") (by tm_at "rbx")
/-! ### _law_term -/
theorem ok_f_law_term {m : Nat} {f : Addr} {fd : FuncData} (F : Fun K "_law_term" "_law_term" s_f_law_term f fd)
    (D_f_law_take : Def P w K mg base CX0 "_law_take" 1 ["box", "wide"] (sp_f_law_take K))
    (D_f_law_term : Def P w K mg base CX0 "_law_term" (2 + m) ["box", "names", "room", "down"] (spR_f_law_term K m))
    (D_f_law_great : Def P w K mg base CX0 "_law_great" 2 ["box"] (sp_f_law_great K))
    (m_len : mg "len" = none) :
    FnG P w K mg base CX0 (2 + m + 1) f fd ["box", "names", "room", "down"] (spR_f_law_term K (m + 1)) := by
  refine okG F sc_f_law_term (fun vs H Q E h => ?_) (fun cdv A outer s H vs Q E hr h => ⟨_, (pss_cons (ps_set (i := 4) sc_f_law_term.nd rfl (by first | exact Or.inl rfl | exact Or.inr rfl) (pe_f D_f_law_take (hr.mono (by omega)) (by rfl) pass0 (pa_cons (pv 0) (pa_cons pe_int pa_nil))))
    (pss_cons (ps_if (PW.pt (pw_or (pt_cmpR op_gLt (pv 2) pe_int (nomark _)) (pw_or (pt_cmpR op_gLt (pv 3) pe_int (nomark _)) (pw_or1 (pt_cmpR (op_gEq (K := K) rfl hr.units) (pv 4) pe_int (nomark _)))))) (pss_cons (ps_if (pt_cmpR (op_gEq (K := K) rfl hr.units) (pe_f D_f_law_take (hr.mono (by omega)) (by rfl) pass0 (pa_cons (pv 0) (pa_cons pe_int pa_nil))) pe_int (nomark _)) (pss_one (ps_ret (pe_tup (pa_cons pe_str (pa_cons (pe_f D_f_law_great (hr.mono (by omega)) (by rfl) pass0 (pa_cons (pv 0) pa_nil)) pa_nil))))) pss_nil)
    (pss_one (ps_ret (pe_tup (pa_cons pe_str (pa_cons (pe_ix (ix_g (K := K) rfl) (pv 1) (pe_f D_f_law_take (hr.mono (by omega)) (by rfl) pass0 (pa_cons (pv 0) (pa_cons (pe_callB (call_gLen (K := K) rfl) (by rfl) m_len PySem.boot_len (pa_cons (pv 1) pa_nil)) pa_nil))) (fun _ _ => rfl)) pa_nil)))))) pss_nil)
    (pss_cons (ps_set (i := 5) sc_f_law_term.nd rfl (by first | exact Or.inl rfl | exact Or.inr rfl) (pe_op (op_gAdd (K := K) rfl) pe_int (pe_f D_f_law_take (hr.mono (by omega)) (by rfl) pass0 (pa_cons (pv 0) (pa_cons (pe_op op_sub (pv 2) pe_int) pa_nil)))))
    (pss_cons (ps_set (i := 6) sc_f_law_term.nd rfl (by first | exact Or.inl rfl | exact Or.inr rfl) (pe_f D_f_law_term (hr.mono (by omega)) (by rfl) pass0 (pa_cons (pv 0) (pa_cons (pv 1) (pa_cons (pv 5) (pa_cons (pe_op op_sub (pv 3) pe_int) pa_nil))))))
    (pss_cons (ps_set (i := 7) sc_f_law_term.nd rfl (by first | exact Or.inl rfl | exact Or.inr rfl) (pe_ix (ix_g (K := K) rfl) (pe_lst (pa_cons pe_str (pa_cons pe_str (pa_cons pe_str pa_nil)))) (pe_f D_f_law_take (hr.mono (by omega)) (by rfl) pass0 (pa_cons (pv 0) (pa_cons pe_int pa_nil))) (fun _ _ => rfl)))
    (pss_one (ps_ret (pe_tup (pa_cons (pv 7) (pa_cons (pv 6) (pa_cons (pe_f D_f_law_term (hr.mono (by omega)) (by rfl) pass0 (pa_cons (pv 0) (pa_cons (pv 1) (pa_cons (pe_op op_sub (pe_op op_sub (pv 2) pe_int) (pv 5)) (pa_cons (pe_op op_sub (pv 3) pe_int) pa_nil))))) pa_nil))))))))))), ?_⟩)
  · obtain ⟨_, _, _, _, _, rfl, _⟩ := h
    rfl
  · obtain ⟨b, p, ys, r, d, rfl, hB, hP, hpb, hy1, hy2, r1, r2, hdm, k⟩ := h
    try dsimp only [cxOf, Cx.nox, Cx.wish]
    change (_ : L2.TS) _ [some (.ref b), some (.ref p), some (.int r), some (.int d), none, none, none, none] _
    refine w_start ?_
    have hpl : (ys.map V.str).length = ys.length := List.length_map _
    repeat' (tm_at "rs")
    any_goals (rename_i n H4 nlt k4 b4 t H5 nt st gt; exact k _ (.num n) _ gt.tm nlt (by show 1 ≤ r.toNat; omega) (Nat.zero_le _) (by tm_at "rkp") (by tm_at "rbx"))
    any_goals (
      rename_i w H4 w0 w1 k4 b4
      refine w_ixStrs (ys := ys) (by tm_at "rsq") w0 (by omega) (fun s hs => ?_)
      repeat' (tm_at "rs")
      rename_i t H5 nt st gt
      exact k _ (.name s) _ (tm_name gt) hs (by show 1 ≤ r.toNat; omega) (Nat.zero_le _) (by tm_at "rkp") (by tm_at "rbx"))
    rename_i f H1 f0 f1 k1 b1 c1 c2 c3 o H2 o0 o1 k2 b2
    obtain ⟨e, rfl⟩ : ∃ e, m = e + 1 := ⟨m - 1, by omega⟩
    have kp2 : Kp b H H2 := by tm_at "rkp"
    refine call_termQ b2 (kp2 _ _ hpb hP) hpb hy1 hy2 (by omega) (by omega) (by omega) (fun v1 t1 H3 ta1 tp1 tr1 td1 k3 b3 => ?_)
    repeat' (tm_at "rs")
    rename_i lp H4 nl sl gl w H5 w0 w1 k5 b5
    have glp : H4 lp = some (.lst (([Str.ofString "plus", Str.ofString "times", Str.ofString "power"] : List Str).map V.str)) := gl
    refine w_ixStrs (sq_of (k5 _ _ (ne_newB nl b3) glp)) w0 (by show w < 3; omega) (fun s hs => ?_)
    repeat' (tm_at "rs")
    have kp5 : Kp b H H5 := (kp2.trans k3).trans ((Kp.of sl).trans k5)
    refine call_termQ b5 (kp5 _ _ hpb hP) hpb hy1 hy2 (by omega) (by omega) (by omega) (fun v2 t2 H6 ta2 tp2 tr2 td2 k6 b6 => ?_)
    repeat' (tm_at "rs")
    rename_i t H7 nt st gt
    have t17 : TmAt K H7 t1 v1 := by
      have h4 := ta1.sm sl
      have h5 := h4.kpB (b3.sm sl) k5
      exact (h5.kpB b5 k6).sm st
    have t27 : TmAt K H7 t2 v2 := ta2.sm st
    refine k _ (.op s t1 t2) _ (tm_op gt t17 t27) ⟨w3_mem hs, tp1, tp2⟩ ?_ ?_ ((kp5.trans k6).trans (Kp.of st)) (b6.sm st)
    · show t1.prt + t2.prt + 1 ≤ r.toNat
      omega
    · show max t1.dep t2.dep + 1 ≤ d.toNat
      omega
/-! ### _law_long -/
theorem ok_f_law_long {f : Addr} {fd : FuncData} (F : Fun K "_law_long" "_law_long" s_f_law_long f fd)
    (D_f_law_take : Def P w K mg base CX0 "_law_take" 1 ["box", "wide"] (sp_f_law_take K))
    (m_range : mg "range" = none)
    (m_len : mg "len" = none) :
    FnG P w K mg base CX0 2 f fd ["box", "names", "many"] (sp_f_law_long K) := by
  refine okG F sc_f_law_long (fun vs H Q E h => ?_) (fun cdv A outer s H vs Q E hr h => ⟨_, (pss_cons (ps_set (i := 3) sc_f_law_long.nd rfl (by first | exact Or.inl rfl | exact Or.inr rfl) (pe_tup (pa_cons pe_str (pa_cons (pe_ix (ix_g (K := K) rfl) (pv 1) pe_int (fun _ _ => rfl)) pa_nil))))
    (pss_cons (ps_for PassesOwn.never rfl (pi_range1 (by rfl) m_range (pa_cons (pv 2) pa_nil)) (pg_name (i := 4) sc_f_law_long.nd rfl (by first | exact Or.inl rfl | exact Or.inr rfl)) (pss_cons (ps_set (i := 5) sc_f_law_long.nd rfl (by first | exact Or.inl rfl | exact Or.inr rfl) (pe_ix (ix_g (K := K) rfl) (pe_lst (pa_cons (pe_tup (pa_cons pe_str (pa_cons (pv 4) pa_nil))) (pa_cons (pe_tup (pa_cons pe_str (pa_cons (pe_ix (ix_g (K := K) rfl) (pv 1) (pe_op op_gMod (pv 4) (pe_callB (call_gLen (K := K) rfl) (by rfl) m_len PySem.boot_len (pa_cons (pv 1) pa_nil))) (fun _ _ => rfl)) pa_nil))) pa_nil))) (pe_f D_f_law_take (hr.mono (by omega)) (by rfl) pass0 (pa_cons (pv 0) (pa_cons pe_int pa_nil))) (fun _ _ => rfl)))
    (pss_cons (ps_set (i := 6) sc_f_law_long.nd rfl (by first | exact Or.inl rfl | exact Or.inr rfl) (pe_ix (ix_g (K := K) rfl) (pe_lst (pa_cons pe_str (pa_cons pe_str (pa_cons pe_str pa_nil)))) (pe_f D_f_law_take (hr.mono (by omega)) (by rfl) pass0 (pa_cons (pv 0) (pa_cons pe_int pa_nil))) (fun _ _ => rfl)))
    (pss_one (ps_if (pt_cmpR (op_gEq (K := K) rfl hr.units) (pe_f D_f_law_take (hr.mono (by omega)) (by rfl) pass0 (pa_cons (pv 0) (pa_cons pe_int pa_nil))) pe_int (nomark _)) (pss_one (ps_set (i := 3) sc_f_law_long.nd rfl (by first | exact Or.inl rfl | exact Or.inr rfl) (pe_tup (pa_cons (pv 6) (pa_cons (pv 3) (pa_cons (pv 5) pa_nil)))))) (pss_one (ps_set (i := 3) sc_f_law_long.nd rfl (by first | exact Or.inl rfl | exact Or.inr rfl) (pe_tup (pa_cons (pv 6) (pa_cons (pv 5) (pa_cons (pv 3) pa_nil)))))))))))
    (pss_one (ps_ret (pv 3))))), ?_⟩)
  · obtain ⟨_, _, _, _, rfl, _⟩ := h
    rfl
  · obtain ⟨b, p, ys, n, rfl, hB, hP, hpb, hy1, hy2, n0, n1, k⟩ := h
    try dsimp only [cxOf, Cx.nox, Cx.wish]
    change (_ : L2.TS) _ [some (.ref b), some (.ref p), some (.int n), none, none, none, none] _
    refine w_start ?_
    have hpl : (ys.map V.str).length = ys.length := List.length_map _
    repeat' (tm_at "rs")
    refine w_ixStrs (ys := ys) (by tm_at "rsq") (by decide) (by omega) (fun s hs => ?_)
    repeat' (tm_at "rs")
    rename_i t H1 nt st gt
    refine loopR (fun i σ' H' => ∃ (x4 x5 x6 : Option V) (v : V) (t : Tm), σ' = [some (.ref b), some (.ref p), some (.int n), some v, x4, x5, x6] ∧ TmAt K H' t v ∧ TmB ys t ∧ t.prt ≤ 1 + 2 * i ∧ t.dep ≤ i ∧ Kp b H H' ∧ BoxAt H' b) ?_ ?_ ?_
    · exact ⟨_, _, _, _, .name s, rfl, tm_name gt, hs, by show 1 ≤ 1 + 2 * 0; decide, by show 0 ≤ 0; decide, Kp.of st, hB.sm st⟩
    · rintro i σ' H' hi ⟨x4, x5, x6, v, t1, rfl, ta, tb, tp, td, hk, hb⟩
      have hP' := hk _ _ hpb hP
      repeat' (tm_at "rs")
      rename_i t2 H2 nt2 st2 gt2 j je j0 j1 j2
      refine w_ixStrs (ys := ys) (sq_of (st2 _ _ hP')) j0 (by omega) (fun s2 hs2 => ?_)
      repeat' (tm_at "rs")
      rename_i q2 H3 nq2 sq2 gq2 L H4 nL sL gL w H5 w0 w1 k5 b5
      rw [Int.zero_add] at gt2
      have hLb : L ≠ b := ne_newB nL ((hb.sm st2).sm sq2)
      have gL5 := k5 _ _ hLb gL
      have bb4 : BoxAt H4 b := ((hb.sm st2).sm sq2).sm sL
      have a2 : TmAt K H5 (.num i) (.ref t2) := (((tm_num gt2).sm sq2).sm sL).kpB bb4 k5
      have a3 : TmAt K H5 (.name s2) (.ref q2) := ((tm_name gq2).sm sL).kpB bb4 k5
      have hi4 : i < 10 ^ 400 := Nat.lt_trans (show i < 200 by omega) (by decide +kernel)
      refine w_ixP (xs := [.ref t2, .ref q2]) (fun x => ∃ l : Tm, TmAt K H5 l x ∧ TmB ys l ∧ l.prt = 1 ∧ l.dep = 0) (.inl (sq_of gL5)) w0 w1 (all2 ⟨_, a2, hi4, rfl, rfl⟩ ⟨_, a3, hs2, rfl, rfl⟩) (fun x hx => ?_)
      obtain ⟨l, al, bl, pl, dl⟩ := hx
      repeat' (tm_at "rs")
      rename_i lp H6 nlp slp glp u H7 u0 u1 k7 b7
      have glp : H6 lp = some (.lst (([Str.ofString "plus", Str.ofString "times", Str.ofString "power"] : List Str).map V.str)) := glp
      refine w_ixStrs (sq_of (k7 _ _ (ne_newB nlp b5) glp)) u0 (by show u < 3; omega) (fun s hs => ?_)
      have hsw := w3_mem hs
      have kp7 : Kp b H H7 := (((hk.trans (Kp.of st2)).trans (Kp.of sq2)).trans (Kp.of sL)).trans ((k5.trans (Kp.of slp)).trans k7)
      have al7 : TmAt K H7 l x := (al.sm slp).kpB (b5.sm slp) k7
      have ta7 : TmAt K H7 t1 v := ((((ta.sm st2).sm sq2).sm sL).kpB bb4 k5 |>.sm slp).kpB (b5.sm slp) k7
      repeat' (tm_at "rs")
      · rename_i z H8 z0 z1 k8 b8 zz r H9 nr sr gr
        have al9 : TmAt K H9 l x := (al7.kpB b7 k8).sm sr
        have ta9 : TmAt K H9 t1 v := (ta7.kpB b7 k8).sm sr
        refine ⟨_, _, _, _, .op s t1 l, rfl, gr, ⟨hsw, tb, bl⟩, ?_, ?_, (kp7.trans k8).trans (Kp.of sr), b8.sm sr⟩
        · show t1.prt + l.prt + 1 ≤ _
          omega
        · show max t1.dep l.dep + 1 ≤ _
          omega
      · rename_i z H8 z0 z1 k8 b8 zz r H9 nr sr gr
        have al9 : TmAt K H9 l x := (al7.kpB b7 k8).sm sr
        have ta9 : TmAt K H9 t1 v := (ta7.kpB b7 k8).sm sr
        refine ⟨_, _, _, _, .op s l t1, rfl, gr, ⟨hsw, bl, tb⟩, ?_, ?_, (kp7.trans k8).trans (Kp.of sr), b8.sm sr⟩
        · show l.prt + t1.prt + 1 ≤ _
          omega
        · show max l.dep t1.dep + 1 ≤ _
          omega
    · rintro σ' H' ⟨x4, x5, x6, v, t1, rfl, ta, tb, tp, td, hk, hb⟩
      repeat' (tm_at "rs")
      exact k _ t1 _ ta tb tp td hk hb
/-! ### is_leaf -/
theorem ok_f_is_leaf {f : Addr} {fd : FuncData} (F : Fun K "is_leaf" "is_leaf" s_f_is_leaf f fd) :
    FnG P w K mg base CX0 1 f fd ["term"] (sp_f_is_leaf K) := by
  refine okG F sc_f_is_leaf (fun vs H Q E h => ?_) (fun cdv A outer s H vs Q E hr h => ⟨_, (pss_one (ps_ret (pe_cmpR (op_gInSeq (K := K) rfl) (pe_ix (ix_g (K := K) rfl) (pv 0) pe_int (fun _ _ => rfl)) (pe_tup (pa_cons pe_str (pa_cons pe_str pa_nil))) (by rfl)))), ?_⟩)
  · obtain ⟨_, _, rfl, _⟩ := h
    rfl
  · obtain ⟨v, t, rfl, hv, ho, k⟩ := h
    try dsimp only [cxOf, Cx.nox, Cx.wish]
    change (_ : L2.TS) _ [some (v)] _
    refine w_start ?_
    cases t with
    | num n =>
      obtain ⟨p, rfl, gp⟩ := hv
      repeat' (tm_at "rs")
      rename_i q H1 n1 s1 g1
      rw [decide_eq_true (.inl rfl)]
      exact k _ s1
    | name s =>
      obtain ⟨p, rfl, gp⟩ := hv
      repeat' (tm_at "rs")
      rename_i q H1 n1 s1 g1
      rw [decide_eq_true (.inr rfl)]
      exact k _ s1
    | op w a b =>
      obtain ⟨p, x, y, rfl, gp, ta, tb⟩ := hv
      obtain ⟨h1, h2, _, _⟩ := ho
      repeat' (tm_at "rs")
      rename_i q H1 n1 s1 g1
      rw [decide_eq_false (fun h => h.elim h1 h2)]
      exact k _ s1
/-! ### all_in -/
theorem ok_f_all_in {f : Addr} {fd : FuncData} (F : Fun K "all_in" "all_in" s_f_all_in f fd)
    (D_f_is_leaf : Def P w K mg base CX0 "is_leaf" 1 ["term"] (sp_f_is_leaf K))
    (m_len : mg "len" = none) :
    FnG P w K mg base CX0 2 f fd ["term"] (sp_f_all_in K) := by
  refine okG F sc_f_all_in (fun vs H Q E h => ?_) (fun cdv A outer s H vs Q E hr h => ⟨_, (pss_cons (ps_set (i := 1) sc_f_all_in.nd rfl (by first | exact Or.inl rfl | exact Or.inr rfl) (pe_lst pa_nil))
    (pss_cons (ps_set (i := 2) sc_f_all_in.nd rfl (by first | exact Or.inl rfl | exact Or.inr rfl) (pe_lst (pa_cons (pe_tup (pa_cons (pv 0) (pa_cons pe_int pa_nil))) pa_nil)))
    (pss_cons (ps_while PassesOwn.never (pt_cmpR op_gGt (pe_callB (call_gLen (K := K) rfl) (by rfl) m_len PySem.boot_len (pa_cons (pv 2) pa_nil)) pe_int (nomark _)) (pss_cons (ps_asg (pe_gbm0 (K := K) rfl PySem.F.plainAttrs_list PySem.F.slot_list_pop PySem.F.type_list_pop mt_pop (pv 2)) (pg_gt (K := K) (n := 2) rfl rfl (pgs_cons (pg_name (i := 3) sc_f_all_in.nd rfl (by first | exact Or.inl rfl | exact Or.inr rfl)) (pgs_cons (pg_name (i := 4) sc_f_all_in.nd rfl (by first | exact Or.inl rfl | exact Or.inr rfl)) pgs_nil))))
    (pss_cons (ps_expr (pe_gbm (K := K) rfl PySem.F.plainAttrs_list PySem.F.slot_list_append PySem.F.type_list_append mt_append (pv 1) (pa_cons (pe_tup (pa_cons (pv 3) (pa_cons (pv 4) pa_nil))) pa_nil)))
    (pss_one (ps_if (pt_not (pt_val (pe_f D_f_is_leaf (hr.mono (by omega)) (by rfl) pass0 (pa_cons (pv 3) pa_nil)))) (pss_one (ps_expr (pe_gbm (K := K) rfl PySem.F.plainAttrs_list PySem.F.slot_list_extend PySem.F.type_list_extend mt_extend (pv 2) (pa_cons (pe_lst (pa_cons (pe_tup (pa_cons (pe_ix (ix_g (K := K) rfl) (pv 3) pe_int (fun _ _ => rfl)) (pa_cons (pe_op (op_gAdd (K := K) rfl) (pv 4) pe_int) pa_nil))) (pa_cons (pe_tup (pa_cons (pe_ix (ix_g (K := K) rfl) (pv 3) pe_int (fun _ _ => rfl)) (pa_cons (pe_op (op_gAdd (K := K) rfl) (pv 4) pe_int) pa_nil))) pa_nil))) pa_nil)))) pss_nil)))))
    (pss_one (ps_ret (pv 1)))))), ?_⟩)
  · obtain ⟨_, _, rfl, _⟩ := h
    rfl
  · obtain ⟨v, t, rfl, hv, ho, hw, k⟩ := h
    try dsimp only [cxOf, Cx.nox, Cx.wish]
    change (_ : L2.TS) _ [some (v), none, none, none, none] _
    refine w_start ?_
    repeat' (tm_at "rs")
    rename_i F H1 nF s1 g1 q0 H2 nq sq gq L H3 nL sL gL
    have FL : F ≠ L := ne_of_none (sq _ _ g1) nL
    have nL0 : H L = none := s1.free (sq.free nL)
    have gF3 := sL _ _ (sq _ _ g1)
    have gq3 := sL _ _ gq
    have hv3 : TmAt K H3 t v := ((hv.sm s1).sm sq).sm sL
    have sm3 : Sm H H3 := s1.trans (sq.trans sL)
    refine w_while (fun m σ' H' => ∃ (x3 x4 : Option V) (S : List (Tm × Nat)) (qs fs : List V) (D : List (Tm × Nat)), σ' = [some v, some (.ref F), some (.ref L), x3, x4] ∧ H' L = some (.lst qs) ∧ Paired (PtAt K H') qs S.reverse ∧ H' F = some (.lst fs) ∧ Paired (PtAt K H') fs D ∧ D ++ allS S = allT t 0 ∧ OpS S ∧ ptw S + D.length ≤ t.wt ∧ Sm H H' ∧ m = ptw S) _ ⟨_, _, [(t, 0)], [.ref q0], [], [], rfl, gL, .cons ⟨q0, v, rfl, gq3, hv3⟩ .nil, gF3, .nil, by show [] ++ (allT t 0 ++ []) = _; rw [List.append_nil]; rfl, (fun s hs => by rw [List.mem_singleton.mp hs]; exact ho), by show t.wt + 0 + 0 ≤ t.wt; omega, sm3, rfl⟩ ?_
    rintro m σ' H' ⟨x3, x4, S, qs, fs, D, rfl, hL, hP, hF, hD, hA, hO, hB, hS, rfl⟩
    have hfl := paired_len hD
    have hql := paired_len hP
    have hsl := ptw_len S
    rw [List.length_reverse] at hql
    have hq1 : qs.length ≤ 10000 := by omega
    have hf1 : fs.length ≤ 10000 := by omega
    cases S with
    | nil =>
      cases hP
      have c0 : ¬ (0 : Int) < (([] : List V).length : Int) := by decide
      have hA2 : D = allT t 0 := by rw [← hA]; exact (List.append_nil D).symm
      rw [hA2] at hD
      repeat' (tm_at "rs")
      all_goals first | contradiction | exact k _ fs _ (by tm_at "rfr") hS hF hD
    | cons s S' =>
      rw [List.reverse_cons] at hP
      obtain ⟨qs', q, rfl, hP', p, x, rfl, gp, tx⟩ := paired_last hP
      have pL : p ≠ L := ne_of gp hL (by intro z; cases z)
      have pF : p ≠ F := ne_of gp hF (by intro z; cases z)
      have hlen : (qs' ++ [V.ref p]).length = qs'.length + 1 := by rw [List.length_append]; rfl
      rw [hlen] at hq1 hql
      have c0 : (0 : Int) < ((qs' ++ [V.ref p]).length : Int) := by rw [hlen]; omega
      have hos := hO s List.mem_cons_self
      have hm : ptw (s :: S') = s.1.wt + ptw S' := rfl
      have hwp := s.1.wt_pos
      repeat' (tm_at "rs")
      · rename_i Ha ka ga w Hb nb sb gb Hc kc gc
        have gFb : Hb F = some (.lst fs) := sb _ _ (ka _ _ FL hF)
        have hT : Tk H' Hc := fun p xs q => tup_kpL gFb kc _ _ (tup_sm sb _ _ (tup_kpL hL ka _ _ q))
        have gwc : Hc w = some (.tup [x, .int ((s.2 : Nat) : Int)]) := tup_kpL gFb kc _ _ gb
        have gLc : Hc L = some (.lst qs') := kc _ _ FL.symm (sb _ _ ga)
        have LF := FL.symm
        obtain ⟨t', d⟩ := s
        have txc : TmAt K Hc t' x := tx.imp hT
        refine call_isLeaf txc hos (fun Hd sd => ?_)
        have hTd : Tk H' Hd := hT.trans (Tk.sm sd)
        have txd : TmAt K Hd t' x := txc.sm sd
        have gwd := sd _ _ gwc
        have gLd := sd _ _ gLc
        have gFd := sd _ _ gc
        have hDd : Paired (PtAt K Hd) (fs ++ [.ref w]) (D ++ [(t', d)]) := paired_app (paired_mono (fun _ _ h => h.imp hTd) hD) (.cons ⟨w, x, rfl, gwd, txd⟩ .nil)
        have hPd : Paired (PtAt K Hd) qs' S'.reverse := paired_mono (fun _ _ h => h.imp hTd) hP'
        have sE : Sm H Hd := by tm_at "rsm"
        have hO' : OpS S' := fun s hs => hO s (List.mem_cons_of_mem _ hs)
        have hfl2 : (D ++ [(t', d)]).length = D.length + 1 := by rw [List.length_append]; rfl
        cases t' with
        | num n =>
          repeat' (tm_at "rs")
          refine ⟨_, ?_, _, _, S', qs', _, D ++ [(.num n, d)], rfl, gLd, hPd, gFd, hDd, ?_, hO', ?_, sE, rfl⟩
          · omega
          · rw [← hA, List.append_assoc]; rfl
          · omega
        | name z =>
          repeat' (tm_at "rs")
          refine ⟨_, ?_, _, _, S', qs', _, D ++ [(.name z, d)], rfl, gLd, hPd, gFd, hDd, ?_, hO', ?_, sE, rfl⟩
          · omega
          · rw [← hA, List.append_assoc]; rfl
          · omega
        | op z a b =>
          obtain ⟨p2, xa, xb, rfl, gp2, ta, tb⟩ := txd
          obtain ⟨_, _, oa, ob⟩ := hos
          show IsBl (.bl false) _
          repeat' (tm_at "rs")
          rename_i e1 He ne se ge e2 Hf nf sf gf l Hg ng sg gg Hh kh gh
          have sdg : Sm Hd Hg := se.trans (sf.trans sg)
          have gLg := sdg _ _ gLd
          have gFg := sdg _ _ gFd
          have hTg : Tk Hd Hh := fun p xs q => tup_kpL gLg kh _ _ (tup_sm sdg _ _ q)
          have ge' : Hh e1 = some (.tup [xb, .int ((d : Nat) + 1 : Int)]) := tup_kpL gLg kh _ _ (sg _ _ (sf _ _ ge))
          have gf' : Hh e2 = some (.tup [xa, .int ((d : Nat) + 1 : Int)]) := tup_kpL gLg kh _ _ (sg _ _ gf)
          refine ⟨_, ?_, _, _, (a, d + 1) :: (b, d + 1) :: S', _, _, D ++ [(.op z a b, d)], rfl, gh, ?_, kh _ _ FL gFg, paired_mono (fun _ _ h => h.imp hTg) hDd, ?_, ?_, ?_, by tm_at "rsm", rfl⟩
          · show a.wt + (b.wt + ptw S') < (Tm.op z a b).wt + ptw S'
            have : (Tm.op z a b).wt = a.wt + b.wt + 2 := rfl
            omega
          · rw [List.reverse_cons, List.reverse_cons, List.append_assoc]
            exact paired_app (paired_mono (fun _ _ h => h.imp hTg) hPd) (.cons ⟨e1, xb, rfl, ge', tb.imp hTg⟩ (.cons ⟨e2, xa, rfl, gf', ta.imp hTg⟩ .nil))
          · rw [← hA, List.append_assoc]
            show D ++ ((.op z a b, d) :: (allT a (d + 1) ++ (allT b (d + 1) ++ allS S'))) = D ++ ((.op z a b, d) :: (allT a (d + 1) ++ allT b (d + 1)) ++ allS S')
            simp
          · intro s hs
            rcases List.mem_cons.mp hs with rfl | hs
            · exact oa
            · rcases List.mem_cons.mp hs with rfl | hs
              · exact ob
              · exact hO' s hs
          · show a.wt + (b.wt + ptw S') + (D ++ [(Tm.op z a b, d)]).length ≤ t.wt
            have : (Tm.op z a b).wt = a.wt + b.wt + 2 := rfl
            have hB2 : (Tm.op z a b).wt + ptw S' + D.length ≤ t.wt := hB
            omega
      · contradiction
/-! ### parts -/
theorem ok_f_parts {f : Addr} {fd : FuncData} (F : Fun K "parts" "parts" s_f_parts f fd)
    (D_f_all_in : Def P w K mg base CX0 "all_in" 2 ["term"] (sp_f_all_in K))
    (m_len : mg "len" = none) :
    FnG P w K mg base CX0 3 f fd ["term"] (sp_f_parts K) := by
  refine okG F sc_f_parts (fun vs H Q E h => ?_) (fun cdv A outer s H vs Q E hr h => ⟨_, (pss_one (ps_ret (pe_callB (call_gLen (K := K) rfl) (by rfl) m_len PySem.boot_len (pa_cons (pe_f D_f_all_in (hr.mono (by omega)) (by rfl) pass0 (pa_cons (pv 0) pa_nil)) pa_nil)))), ?_⟩)
  · obtain ⟨_, _, rfl, _⟩ := h
    rfl
  · obtain ⟨v, t, rfl, hv, ho, hw, k⟩ := h
    try dsimp only [cxOf, Cx.nox, Cx.wish]
    change (_ : L2.TS) _ [some (v)] _
    refine w_start ?_
    repeat' (tm_at "rs")
    refine call_allIn9 hv ho hw (fun p vs H1 np s1 gp hp => ?_)
    repeat' (tm_at "rs")
    rw [paired_len hp]
    exact k _ s1
/-! ### deep -/
theorem ok_f_deep {f : Addr} {fd : FuncData} (F : Fun K "deep" "deep" s_f_deep f fd)
    (D_f_all_in : Def P w K mg base CX0 "all_in" 2 ["term"] (sp_f_all_in K))
    (m_max : mg "max" = none) :
    FnG P w K mg base CX0 3 f fd ["term"] (sp_f_deep K) := by
  refine okG F sc_f_deep (fun vs H Q E h => ?_) (fun cdv A outer s H vs Q E hr h => ⟨_, (pss_one (ps_ret (pe_callB (cr_mxN (K := K) rfl rfl hr.units) (by rfl) m_max (by decide +kernel) (pa_cons (pe_lc (own := _) rfl sc_f_deep.nd (pi_gl (K := K) rfl (pe_f D_f_all_in (hr.mono (by omega)) (by rfl) pass0 (pa_cons (pv 0) pa_nil))) (blkOk_by (own := [("part", 1), ("down", 2)]) (N := ["term", "part", "down"]) (sc := defScope s_f_deep) (by decide +kernel)) (fun _ _ _ _ _ => (pg_gt (K := K) (n := 2) rfl rfl (pgs_cons (pg_name (i := 1) sc_f_deep.nd rfl (by first | exact Or.inl rfl | exact Or.inr rfl)) (pgs_cons (pg_name (i := 2) sc_f_deep.nd rfl (by first | exact Or.inl rfl | exact Or.inr rfl)) pgs_nil)))) (fun _ _ _ _ _ => pts_nil) (fun _ _ _ _ _ => (pv 2))) pa_nil)))), ?_⟩)
  · obtain ⟨_, _, rfl, _⟩ := h
    rfl
  · obtain ⟨v, t, rfl, hv, ho, hw, k⟩ := h
    try dsimp only [cxOf, Cx.nox, Cx.wish]
    change (_ : L2.TS) _ [some (v), none, none] _
    refine w_start ?_
    repeat' (tm_at "rs")
    refine call_allIn9 hv ho hw (fun p vs H1 np s1 gp hp => ?_)
    repeat' (tm_at "rs")
    have hvl := paired_len hp
    have hal := allT_len t 0
    refine lcLs (xs := vs) (fun D i H' => H' D = some (.lst (nV (((allT t 0).take i).map (·.2)))) ∧ Sm H1 H') ?_ ?_ ?_ ?_
    · exact fun D H' nD sm hD => ⟨hD, sm⟩
    · rintro D i H' nD hi ⟨hD, sm⟩
      exact sq_of (sm _ _ gp)
    · rintro D i x H' nD hi ⟨hD, sm⟩
      obtain ⟨s, hs, q, y, rfl, gq, ty⟩ := paired_get hp hi
      have gq' := sm _ _ gq
      have hz : (nV (((allT t 0).take i).map (·.2))).length ≤ 10000 := by rw [nV_len, List.length_map, List.length_take]; omega
      repeat' (tm_at "rs")
      rename_i H2 k2 g2
      refine ⟨?_, by tm_at "rsm"⟩
      rw [List.take_succ, hs, List.map_append, nV_app]
      exact g2
    · rintro D H' nD ⟨hD, sm⟩
      rw [hvl, List.take_length] at hD
      refine w_mxL (sq_of hD) (by cases t <;> simp [allT]) ?_
      repeat' (tm_at "rs")
      exact k _ (s1.trans sm)
/-! ### sum_of -/
theorem ok_f_sum_of {f : Addr} {fd : FuncData} (F : Fun K "sum_of" "sum_of" s_f_sum_of f fd)
    (m_enumerate : mg "enumerate" = none)
    (m_int : mg "int" = none) :
    FnG P w K mg base CX0 1 f fd ["terms"] (sp_f_sum_of K) := by
  refine okG F sc_f_sum_of (fun vs H Q E h => ?_) (fun cdv A outer s H vs Q E hr h => ⟨_, (pss_cons (ps_set (i := 1) sc_f_sum_of.nd rfl (by first | exact Or.inl rfl | exact Or.inr rfl) (pe_tup (pa_cons pe_str (pa_cons pe_int pa_nil))))
    (pss_cons (ps_for PassesOwn.never rfl (pi_or (pi_enum (by rfl) m_enumerate (pa_cons (pv 0) pa_nil)) (pi_enT (by rfl) m_enumerate (pa_cons (pv 0) pa_nil))) (pg_gt (K := K) (n := 2) rfl rfl (pgs_cons (pg_name (i := 2) sc_f_sum_of.nd rfl (by first | exact Or.inl rfl | exact Or.inr rfl)) (pgs_cons (pg_name (i := 3) sc_f_sum_of.nd rfl (by first | exact Or.inl rfl | exact Or.inr rfl)) pgs_nil))) (pss_one (ps_set (i := 1) sc_f_sum_of.nd rfl (by first | exact Or.inl rfl | exact Or.inr rfl) (pe_ix (ix_g (K := K) rfl) (pe_lst (pa_cons (pe_tup (pa_cons pe_str (pa_cons (pv 1) (pa_cons (pv 3) pa_nil)))) (pa_cons (pv 3) pa_nil))) (pe_callTy call_gInt (by rfl) m_int PyProof.Rows.boot_int (pa_cons (pe_cmpR (op_gEq (K := K) rfl hr.units) (pv 2) pe_int (nomark _)) pa_nil)) (fun _ _ => rfl)))))
    (pss_one (ps_ret (pv 1))))), ?_⟩)
  · obtain ⟨_, _, _, rfl, _⟩ := h
    rfl
  · obtain ⟨p, xs, ts, rfl, hp, hx, k⟩ := h
    try dsimp only [cxOf, Cx.nox, Cx.wish]
    change (_ : L2.TS) _ [some (.ref p), none, none, none] _
    refine w_start ?_
    have hxl := paired_len hx
    repeat' (tm_at "rs")
    rename_i z H1 nz sz gz
    rcases hp with hp | hp
    · refine .inl ?_
      repeat' (tm_at "rs")
      refine loopEn (xs := xs) (fun i σ' H' => ∃ (v : V) (x2 x3 : Option V), σ' = [some (.ref p), some v, x2, x3] ∧ Sm H H' ∧ TmAt K H' (sumT (ts.take i)) v) ⟨_, _, _, rfl, sz, tm_num gz⟩ ?_ ?_ ?_
      · rintro i σ' H' hi ⟨v, x2, x3, rfl, hs, hv⟩
        exact sq_of (hs _ _ hp)
      · rintro i x T σ' H1 H2 hi hxi ⟨v, x2, x3, rfl, hs, hv⟩ nT sT gT
        obtain ⟨t, hti, ht⟩ := paired_get hx hxi
        have ht2 := ht.sm (hs.trans sT)
        have hv2 := hv.sm sT
        have htk : ts.take (i + 1) = ts.take i ++ [t] := by rw [List.take_succ, hti]; rfl
        repeat' (tm_at "rs")
        · first
          | (rename_i q H3 nq sq gq L H4 nL sL gL hL e
             have e : i = 0 := by omega
             subst e
             refine ⟨_, _, _, rfl, hs.trans (sT.trans (sq.trans sL)), ?_⟩
             rw [htk]
             exact ht2.sm (sq.trans sL))
          | (rename_i q H3 nq sq gq L H4 nL sL gL e
             have e : i = 0 := by omega
             subst e
             refine ⟨_, _, _, rfl, hs.trans (sT.trans (sq.trans sL)), ?_⟩
             rw [htk]
             exact ht2.sm (sq.trans sL))
        · first
          | (rename_i q H3 nq sq gq L H4 nL sL gL hL e
             refine ⟨_, _, _, rfl, hs.trans (sT.trans (sq.trans sL)), ?_⟩
             rw [htk, sumT_add (by
               intro z
               have h1 := congrArg List.length z
               have h2 := (List.getElem?_eq_some_iff.mp hti).1
               rw [List.length_take] at h1
               have h3 : ([] : List Tm).length = 0 := rfl
               omega)]
             first | exact (tm_op gq (hv2.sm sq) (ht2.sm sq)).sm sL | exact TmAt.sm gq sL)
          | (rename_i q H3 nq sq gq L H4 nL sL gL e
             refine ⟨_, _, _, rfl, hs.trans (sT.trans (sq.trans sL)), ?_⟩
             rw [htk, sumT_add (by
               intro z
               have h1 := congrArg List.length z
               have h2 := (List.getElem?_eq_some_iff.mp hti).1
               rw [List.length_take] at h1
               have h3 : ([] : List Tm).length = 0 := rfl
               omega)]
             first | exact (tm_op gq (hv2.sm sq) (ht2.sm sq)).sm sL | exact TmAt.sm gq sL)
      · rintro σ' H' ⟨v, x2, x3, rfl, hs, hv⟩
        rw [hxl, List.take_length] at hv
        repeat' (tm_at "rs")
        exact k _ _ hs hv
    · refine .inr ?_
      repeat' (tm_at "rs")
      refine loopEt (xs := xs) (fun i σ' H' => ∃ (v : V) (x2 x3 : Option V), σ' = [some (.ref p), some v, x2, x3] ∧ Sm H H' ∧ TmAt K H' (sumT (ts.take i)) v) ⟨_, _, _, rfl, sz, tm_num gz⟩ ?_ ?_ ?_
      · rintro i σ' H' hi ⟨v, x2, x3, rfl, hs, hv⟩
        exact st_of (hs _ _ hp)
      · rintro i x T σ' H1 H2 hi hxi ⟨v, x2, x3, rfl, hs, hv⟩ nT sT gT
        obtain ⟨t, hti, ht⟩ := paired_get hx hxi
        have ht2 := ht.sm (hs.trans sT)
        have hv2 := hv.sm sT
        have htk : ts.take (i + 1) = ts.take i ++ [t] := by rw [List.take_succ, hti]; rfl
        repeat' (tm_at "rs")
        · first
          | (rename_i q H3 nq sq gq L H4 nL sL gL hL e
             have e : i = 0 := by omega
             subst e
             refine ⟨_, _, _, rfl, hs.trans (sT.trans (sq.trans sL)), ?_⟩
             rw [htk]
             exact ht2.sm (sq.trans sL))
          | (rename_i q H3 nq sq gq L H4 nL sL gL e
             have e : i = 0 := by omega
             subst e
             refine ⟨_, _, _, rfl, hs.trans (sT.trans (sq.trans sL)), ?_⟩
             rw [htk]
             exact ht2.sm (sq.trans sL))
        · first
          | (rename_i q H3 nq sq gq L H4 nL sL gL hL e
             refine ⟨_, _, _, rfl, hs.trans (sT.trans (sq.trans sL)), ?_⟩
             rw [htk, sumT_add (by
               intro z
               have h1 := congrArg List.length z
               have h2 := (List.getElem?_eq_some_iff.mp hti).1
               rw [List.length_take] at h1
               have h3 : ([] : List Tm).length = 0 := rfl
               omega)]
             first | exact (tm_op gq (hv2.sm sq) (ht2.sm sq)).sm sL | exact TmAt.sm gq sL)
          | (rename_i q H3 nq sq gq L H4 nL sL gL e
             refine ⟨_, _, _, rfl, hs.trans (sT.trans (sq.trans sL)), ?_⟩
             rw [htk, sumT_add (by
               intro z
               have h1 := congrArg List.length z
               have h2 := (List.getElem?_eq_some_iff.mp hti).1
               rw [List.length_take] at h1
               have h3 : ([] : List Tm).length = 0 := rfl
               omega)]
             first | exact (tm_op gq (hv2.sm sq) (ht2.sm sq)).sm sL | exact TmAt.sm gq sL)
      · rintro σ' H' ⟨v, x2, x3, rfl, hs, hv⟩
        rw [hxl, List.take_length] at hv
        repeat' (tm_at "rs")
        exact k _ _ hs hv
/-! ### _law_walked -/
theorem ok_f_law_walked {f : Addr} {fd : FuncData} (F : Fun K "_law_walked" "_law_walked" s_f_law_walked f fd)
    (m_len : mg "len" = none)
    (m_max : mg "max" = none)
    (m_isinstance : mg "isinstance" = none)
    (m_tuple : mg "tuple" = none) :
    FnG P w K mg base CX0 1 f fd ["term"] (sp_f_law_walked K) := by
  refine okG F sc_f_law_walked (fun vs H Q E h => ?_) (fun cdv A outer s H vs Q E hr h => ⟨_, (pss_cons (ps_asg (pe_tup (pa_cons pe_int (pa_cons pe_int pa_nil))) (pg_gt (K := K) (n := 2) rfl rfl (pgs_cons (pg_name (i := 1) sc_f_law_walked.nd rfl (by first | exact Or.inl rfl | exact Or.inr rfl)) (pgs_cons (pg_name (i := 2) sc_f_law_walked.nd rfl (by first | exact Or.inl rfl | exact Or.inr rfl)) pgs_nil))))
    (pss_cons (ps_set (i := 3) sc_f_law_walked.nd rfl (by first | exact Or.inl rfl | exact Or.inr rfl) (pe_lst (pa_cons (pe_tup (pa_cons (pv 0) (pa_cons pe_int pa_nil))) pa_nil)))
    (pss_cons (ps_while PassesOwn.never (pt_cmpR op_gGt (pe_callB (call_gLen (K := K) rfl) (by rfl) m_len PySem.boot_len (pa_cons (pv 3) pa_nil)) pe_int (nomark _)) (pss_cons (ps_asg (pe_gbm0 (K := K) rfl PySem.F.plainAttrs_list PySem.F.slot_list_pop PySem.F.type_list_pop mt_pop (pv 3)) (pg_gt (K := K) (n := 2) rfl rfl (pgs_cons (pg_name (i := 4) sc_f_law_walked.nd rfl (by first | exact Or.inl rfl | exact Or.inr rfl)) (pgs_cons (pg_name (i := 5) sc_f_law_walked.nd rfl (by first | exact Or.inl rfl | exact Or.inr rfl)) pgs_nil))))
    (pss_cons (ps_par (i := 1) (j := 2) rfl sc_f_law_walked.nd rfl rfl (by decide) rfl rfl (pa_cons (pe_op (op_gAdd (K := K) rfl) (pv 1) pe_int) (pa_cons (pe_callB (call_gMax rfl) (by rfl) m_max (by decide +kernel) (pa_cons (pv 2) (pa_cons (pv 5) pa_nil))) pa_nil)) (by rfl))
    (pss_one (ps_for PassesOwn.never rfl (pi_gt (K := K) rfl (pe_slice (sl_gl (K := K) rfl) (pv 4) (po_some pe_int) po_none)) (pg_name (i := 6) sc_f_law_walked.nd rfl (by first | exact Or.inl rfl | exact Or.inr rfl)) (pss_one (ps_if (pt_val (pe_callB (call_gIsi (K := K) rfl) (by rfl) m_isinstance PyProof.Rows.boot_isinstance (pa_cons (pv 6) (pa_cons (pe_bltn (v := .ty "tuple") (by rfl) m_tuple PyProof.Rows.boot_tuple rfl) pa_nil)))) (pss_one (ps_expr (pe_gbm (K := K) rfl PySem.F.plainAttrs_list PySem.F.slot_list_append PySem.F.type_list_append mt_append (pv 3) (pa_cons (pe_tup (pa_cons (pv 6) (pa_cons (pe_op (op_gAdd (K := K) rfl) (pv 5) pe_int) pa_nil))) pa_nil)))) pss_nil)))))))
    (pss_one (ps_ret (pe_tup (pa_cons (pv 1) (pa_cons (pv 2) pa_nil)))))))), ?_⟩)
  · obtain ⟨_, _, rfl, _⟩ := h
    rfl
  · obtain ⟨v, t, rfl, hv, hw, k⟩ := h
    try dsimp only [cxOf, Cx.nox, Cx.wish]
    change (_ : L2.TS) _ [some (v), none, none, none, none, none, none] _
    refine w_start ?_
    repeat' (tm_at "rs")
    rename_i z0 H1 nz sz gz q0 H2 nq sq gq L H3 nL sL gL
    have sm3 : Sm H H3 := sz.trans (sq.trans sL)
    have hal := allT_len t 0
    have nL0 : H L = none := (sz.trans sq).free nL
    refine w_while (fun m σ' H' => ∃ (x4 x5 x6 : Option V) (S : List (Tm × Nat)) (qs : List V) (a b : Nat), σ' = [some v, some (.int a), some (.int b), some (.ref L), x4, x5, x6] ∧ H' L = some (.lst qs) ∧ Paired (PtAt K H') qs S.reverse ∧ a + (allS S).length = (allT t 0).length ∧ max b (mxA (allS S)) = mxA (allT t 0) ∧ ptw S ≤ t.wt ∧ Sm H H' ∧ m = ptw S) _ ⟨_, _, _, [(t, 0)], [.ref q0], 0, 0, rfl, gL, .cons ⟨q0, v, rfl, sL _ _ gq, hv.sm sm3⟩ .nil, by show 0 + (allT t 0 ++ []).length = _; rw [List.append_nil]; omega, by show max 0 (mxA (allT t 0 ++ [])) = _; rw [List.append_nil]; omega, by show t.wt + 0 ≤ t.wt; omega, sm3, rfl⟩ ?_
    rintro m σ' H' ⟨x4, x5, x6, S, qs, a, b, rfl, hL, hP, hA, hM, hB, hS, rfl⟩
    have hql := paired_len hP
    have hsl := ptw_len S
    rw [List.length_reverse] at hql
    have hq1 : qs.length ≤ 10000 := by omega
    cases S with
    | nil =>
      cases hP
      have c0 : ¬ (0 : Int) < (([] : List V).length : Int) := by decide
      have e1 : a = (allT t 0).length := hA
      have e2 : b = mxA (allT t 0) := by rw [← hM]; show b = max b 0; omega
      repeat' (tm_at "rs")
      all_goals first | contradiction | skip
      rename_i p H4 np sp gp
      rw [e1, e2] at gp
      exact k p _ gp (hS.trans sp)
    | cons s S' =>
      rw [List.reverse_cons] at hP
      obtain ⟨qs', q, rfl, hP', p, x, rfl, gp, tx⟩ := paired_last hP
      have hlen : (qs' ++ [V.ref p]).length = qs'.length + 1 := by rw [List.length_append]; rfl
      rw [hlen] at hq1 hql
      have c0 : (0 : Int) < ((qs' ++ [V.ref p]).length : Int) := by rw [hlen]; omega
      have hwp := s.1.wt_pos
      have pL : p ≠ L := ne_of gp hL (by intro z; cases z)
      repeat' (tm_at "rs")
      rotate_left
      · contradiction
      rename_i cc Hc kc gc
      obtain ⟨t', d⟩ := s
      have hT : Tk H' Hc := fun p xs q => tup_kpL hL kc _ _ q
      have txc : TmAt K Hc t' x := tx.imp hT
      have hPc : Paired (PtAt K Hc) qs' S'.reverse := paired_mono (fun _ _ h => h.imp hT) hP'
      have sc : Sm H Hc := sm_mut hS nL0 kc
      have em : max (b : Int) ((d : Nat) : Int) = ((max b d : Nat) : Int) := by omega
      have hA' : a + (allT t' d ++ allS S').length = (allT t 0).length := hA
      have hM' : max b (mxA (allT t' d ++ allS S')) = mxA (allT t 0) := hM
      rw [List.length_append] at hA'
      rw [mxA_app] at hM'
      have hB' : t'.wt + ptw S' ≤ t.wt := hB
      rw [em]
      cases t' with
      | num n =>
        obtain ⟨p2, rfl, hp2⟩ := txc
        refine w_slTk hp2.sq (fun h => absurd h.1 (show ¬ HT.sIx 2 0 (some 1) = 0 by decide)) (fun T H5 nT sT gT => ?_)
        have gT' : H5 T = some (.tup [.int (n : Int)]) := gT
        clear gT
        repeat' (tm_at "rs")
        refine loopT (xs := [.int (n : Int)]) (fun i σ' H'' => ∃ x6 : Option V, σ' = [some v, some (.int ((a + 1 : Nat) : Int)), some (.int ((max b d : Nat) : Int)), some (.ref L), some (.ref p2), some (.int (d : Nat)), x6] ∧ H'' = H5) ⟨_, rfl, rfl⟩ ?_ ?_ ?_
        · rintro i σ' H'' hi ⟨x6, rfl, rfl⟩
          exact st_of gT'
        · rintro i y σ' H'' hy ⟨x6, rfl, rfl⟩
          obtain rfl : y = .int (n : Int) := by
            rcases i with _ | i
            · cases hy; rfl
            · cases hy
          repeat' (tm_at "rs")
          refine w_isiIt ?_
          repeat' (tm_at "rs")
          exact ⟨_, rfl, rfl⟩
        · rintro σ' H'' ⟨x6, rfl, rfl⟩
          repeat' (tm_at "rs")
          refine ⟨_, ?_, _, _, _, S', qs', a + 1, max b d, rfl, sT _ _ gc, paired_mono (fun _ _ h => h.sm sT) hPc, ?_, ?_, ?_, sc.trans sT, rfl⟩
          · show ptw S' < 1 + ptw S'
            omega
          · have : (allT (.num n) d).length = 1 := rfl
            omega
          · have : mxA (allT (.num n) d) = max d 0 := mxA_cons _ _
            omega
          · omega
      | name z =>
        obtain ⟨p2, rfl, hp2⟩ := txc
        refine w_slTk hp2.sq (fun h => absurd h.1 (show ¬ HT.sIx 2 0 (some 1) = 0 by decide)) (fun T H5 nT sT gT => ?_)
        have gT' : H5 T = some (.tup [.str z]) := gT
        clear gT
        repeat' (tm_at "rs")
        refine loopT (xs := [.str z]) (fun i σ' H'' => ∃ x6 : Option V, σ' = [some v, some (.int ((a + 1 : Nat) : Int)), some (.int ((max b d : Nat) : Int)), some (.ref L), some (.ref p2), some (.int (d : Nat)), x6] ∧ H'' = H5) ⟨_, rfl, rfl⟩ ?_ ?_ ?_
        · rintro i σ' H'' hi ⟨x6, rfl, rfl⟩
          exact st_of gT'
        · rintro i y σ' H'' hy ⟨x6, rfl, rfl⟩
          obtain rfl : y = .str z := by
            rcases i with _ | i
            · cases hy; rfl
            · cases hy
          repeat' (tm_at "rs")
          refine w_isiSt ?_
          repeat' (tm_at "rs")
          exact ⟨_, rfl, rfl⟩
        · rintro σ' H'' ⟨x6, rfl, rfl⟩
          repeat' (tm_at "rs")
          refine ⟨_, ?_, _, _, _, S', qs', a + 1, max b d, rfl, sT _ _ gc, paired_mono (fun _ _ h => h.sm sT) hPc, ?_, ?_, ?_, sc.trans sT, rfl⟩
          · show ptw S' < 1 + ptw S'
            omega
          · have : (allT (.name z) d).length = 1 := rfl
            omega
          · have : mxA (allT (.name z) d) = max d 0 := mxA_cons _ _
            omega
          · omega
      | op w ta tb =>
        obtain ⟨p2, xa, xb, rfl, hp2, hta, htb⟩ := txc
        refine w_slTk hp2.sq (fun h => absurd h.1 (show ¬ HT.sIx 3 0 (some 1) = 0 by decide)) (fun T H5 nT sT gT => ?_)
        have gT' : H5 T = some (.tup [xa, xb]) := gT
        clear gT
        have gL5 := sT _ _ gc
        have TL : T ≠ L := ne_new nT gc
        have hpr : Paired (fun y (s : Tm × Nat) => TmAt K H5 s.1 y ∧ s.2 = d + 1) [xa, xb] [(ta, d + 1), (tb, d + 1)] := .cons ⟨hta.sm sT, rfl⟩ (.cons ⟨htb.sm sT, rfl⟩ .nil)
        repeat' (tm_at "rs")
        refine loopT (xs := [xa, xb]) (fun i σ' H'' => ∃ (x6 : Option V) (us : List V), σ' = [some v, some (.int ((a + 1 : Nat) : Int)), some (.int ((max b d : Nat) : Int)), some (.ref L), some (.ref p2), some (.int (d : Nat)), x6] ∧ H'' L = some (.lst (qs' ++ us)) ∧ Paired (PtAt K H'') us (([(ta, d + 1), (tb, d + 1)] : List (Tm × Nat)).take i) ∧ Kp L H5 H'') ⟨_, [], rfl, by rw [List.append_nil]; exact gL5, .nil, Kp.refl _⟩ ?_ ?_ ?_
        · rintro i σ' H'' hi ⟨x6, us, rfl, gl, hu, hk⟩
          exact st_of (hk _ _ TL gT')
        · rintro i y σ' H'' hy ⟨x6, us, rfl, gl, hu, hk⟩
          obtain ⟨⟨ti, di⟩, hs, ts, hd⟩ := paired_get hpr hy
          have hd : di = d + 1 := hd
          subst hd
          have ts2 : TmAt K H'' ti y := TmAt.kpL ts gL5 hk
          obtain ⟨p3, ys, rfl, hsq⟩ := TmAt.sq ts2
          have hul := paired_len hu
          rw [List.length_take] at hul
          have hz : (qs' ++ us).length ≤ 10002 := by
            rw [List.length_append]
            have : ([(ta, d + 1), (tb, d + 1)] : List (Tm × Nat)).length = 2 := rfl
            omega
          repeat' (tm_at "rs")
          refine w_isiTk hsq ?_
          repeat' (tm_at "rs")
          rename_i e1 H6 ne se ge H7 k7 g7
          have gl6 := se _ _ gl
          have hTg : Tk H'' H7 := fun p xs q => tup_kpL gl6 k7 _ _ (tup_sm se _ _ q)
          refine ⟨_, us ++ [.ref e1], rfl, by rw [← List.append_assoc]; exact g7, ?_, (hk.trans (Kp.of se)).trans k7⟩
          rw [List.take_succ, hs]
          exact paired_app (paired_mono (fun _ _ h => h.imp hTg) hu) (.cons ⟨e1, _, rfl, tup_kpL gl6 k7 _ _ ge, ts2.imp hTg⟩ .nil)
        · rintro σ' H'' ⟨x6, us, rfl, gl, hu, hk⟩
          have hTk : Tk Hc H'' := fun p xs q => tup_kpL gL5 hk _ _ (tup_sm sT _ _ q)
          repeat' (tm_at "rs")
          refine ⟨_, ?_, _, _, _, (tb, d + 1) :: (ta, d + 1) :: S', qs' ++ us, a + 1, max b d, rfl, gl, ?_, ?_, ?_, ?_, sm_mut (sc.trans sT) nL0 hk, rfl⟩
          · show tb.wt + (ta.wt + ptw S') < (ta.wt + tb.wt + 2) + ptw S'
            omega
          · rw [List.reverse_cons, List.reverse_cons, List.append_assoc]
            exact paired_app (paired_mono (fun _ _ h => h.imp hTk) hPc) hu
          · have e : (allT (.op w ta tb) d).length = (allT ta (d + 1)).length + (allT tb (d + 1)).length + 1 := by
              show ((Tm.op w ta tb, d) :: (allT ta (d + 1) ++ allT tb (d + 1))).length = _
              rw [List.length_cons, List.length_append]
            show a + 1 + (allT tb (d + 1) ++ (allT ta (d + 1) ++ allS S')).length = _
            rw [List.length_append, List.length_append]
            omega
          · have e : mxA (allT (.op w ta tb) d) = max d (max (mxA (allT ta (d + 1))) (mxA (allT tb (d + 1)))) := by
              show mxA ((Tm.op w ta tb, d) :: (allT ta (d + 1) ++ allT tb (d + 1))) = _
              rw [mxA_cons, mxA_app]
            show max (max b d) (mxA (allT tb (d + 1) ++ (allT ta (d + 1) ++ allS S'))) = _
            rw [mxA_app, mxA_app]
            omega
          · show tb.wt + (ta.wt + ptw S') ≤ t.wt
            have : (Tm.op w ta tb).wt = ta.wt + tb.wt + 2 := rfl
            omega
/-! ### _law_whole -/
theorem ok_f_law_whole {f : Addr} {fd : FuncData} (F : Fun K "_law_whole" "_law_whole" s_f_law_whole f fd)
    (m_isinstance : mg "isinstance" = none)
    (m_int : mg "int" = none)
    (m_bool : mg "bool" = none) :
    FnG P w K mg base CX0 1 f fd ["number"] (sp_f_law_whole K) := by
  refine okG F sc_f_law_whole (fun vs H Q E h => ?_) (fun cdv A outer s H vs Q E hr h => ⟨_, (pss_one (ps_ret (pe_and (pe_callB (call_gIsi (K := K) rfl) (by rfl) m_isinstance PyProof.Rows.boot_isinstance (pa_cons (pv 0) (pa_cons (pe_bltn (v := .ty "int") (by rfl) m_int PyProof.Rows.boot_int rfl) pa_nil))) (pe_one (pe_not (pe_callB (call_gIsi (K := K) rfl) (by rfl) m_isinstance PyProof.Rows.boot_isinstance (pa_cons (pv 0) (pa_cons (pe_bltn (v := .ty "bool") (by rfl) m_bool PyProof.Rows.boot_bool rfl) pa_nil)))))))), ?_⟩)
  · obtain ⟨_, rfl, _⟩ := h
    rfl
  · obtain ⟨n, rfl, k⟩ := h
    try dsimp only [cxOf, Cx.nox, Cx.wish]
    change (_ : L2.TS) _ [some (.int n)] _
    refine w_start ?_
    repeat' (tm_at "rs")
    exact k
/-! ### law -/
theorem ok_f_law {f : Addr} {fd : FuncData} (F : Fun K "law" "law" s_f_law f fd)
    (D_f_law_box : Def P w K mg base CX0 "_law_box" 1 ["script", "k"] (sp_f_law_box K))
    (D_f_law_words : Def P w K mg base CX0 "_law_words" 2 ["box", "many"] (sp_f_law_words K))
    (D_f_law_term : Def P w K mg base CX0 "_law_term" 17 ["box", "names", "room", "down"] (sp_f_law_term K))
    (D_f_law_take : Def P w K mg base CX0 "_law_take" 1 ["box", "wide"] (sp_f_law_take K))
    (D_f_law_long : Def P w K mg base CX0 "_law_long" 2 ["box", "names", "many"] (sp_f_law_long K))
    (D_f_parts : Def P w K mg base CX0 "parts" 3 ["term"] (sp_f_parts K))
    (D_f_deep : Def P w K mg base CX0 "deep" 3 ["term"] (sp_f_deep K))
    (D_f_sum_of : Def P w K mg base CX0 "sum_of" 1 ["terms"] (sp_f_sum_of K))
    (D_f_law_walked : Def P w K mg base CX0 "_law_walked" 1 ["term"] (sp_f_law_walked K))
    (D_f_law_whole : Def P w K mg base CX0 "_law_whole" 1 ["number"] (sp_f_law_whole K))
    (DK_f_sum_of_terms : DefK P w K mg base CX0 "sum_of" 1 ["terms"] ["terms"] gk_f_sum_of_terms (sp_f_sum_of K))
    (m_range : mg "range" = none)
    (m_max : mg "max" = none)
    (m_enumerate : mg "enumerate" = none)
    (m_list : mg "list" = none)
    (m_min : mg "min" = none)
    (m_len : mg "len" = none)
    (m_int : mg "int" = none)
    (m_tuple : mg "tuple" = none) :
    FnG P w K mg base CX0 18 f fd ["script"] (sp_f_law K) := by
  refine okG F sc_f_law (fun vs H Q E h => ?_) (fun cdv A outer s H vs Q E hr h => ⟨_, (pss_cons (ps_for PassesOwn.never rfl (pi_range1 (by rfl) m_range (pa_cons (pe_callB (call_gMax rfl) (by rfl) m_max (by decide +kernel) (pa_cons pe_int (pa_cons (pe_callB (call_gMin rfl) (by rfl) m_min (by decide +kernel) (pa_cons (pe_callB (call_gLen (K := K) rfl) (by rfl) m_len PySem.boot_len (pa_cons (pv 0) pa_nil)) (pa_cons pe_int pa_nil))) pa_nil))) pa_nil)) (pg_name (i := 1) sc_f_law.nd rfl (by first | exact Or.inl rfl | exact Or.inr rfl)) (pss_cons (ps_set (i := 2) sc_f_law.nd rfl (by first | exact Or.inl rfl | exact Or.inr rfl) (pe_f D_f_law_box (hr.mono (by omega)) (by rfl) pass0 (pa_cons (pv 0) (pa_cons (pv 1) pa_nil))))
    (pss_cons (ps_set (i := 3) sc_f_law.nd rfl (by first | exact Or.inl rfl | exact Or.inr rfl) (pe_f D_f_law_words (hr.mono (by omega)) (by rfl) pass0 (pa_cons (pv 2) (pa_cons pe_int pa_nil))))
    (pss_cons (ps_setLc (i := 4) rfl sc_f_law.nd rfl rfl (sw_true rfl rfl rfl (by decide +kernel)) (pi_range1 (by rfl) m_range (pa_cons (pe_f D_f_law_take (hr.mono (by omega)) (by rfl) pass0 (pa_cons (pv 2) (pa_cons pe_int pa_nil))) pa_nil)) (blkOk_by (own := [("turn", 5)]) (N := ["script", "k", "box", "names", "some", "turn", "full", "term", "found", "due", "at", "kept"]) (sc := defScope s_f_law) (by decide +kernel)) (fun _ _ _ _ _ => (pg_name (i := 5) sc_f_law.nd rfl (by first | exact Or.inl rfl | exact Or.inr rfl))) (fun _ _ _ _ _ => pts_nil) (fun _ _ _ _ _ => (pe_f D_f_law_term (hr.mono (by omega)) (by rfl) pass0 (pa_cons (pv 2) (pa_cons (pv 3) (pa_cons (pe_op (op_gAdd (K := K) rfl) pe_int (pe_f D_f_law_take (hr.mono (by omega)) (by rfl) pass0 (pa_cons (pv 2) (pa_cons pe_int pa_nil)))) (pa_cons pe_int pa_nil)))))))
    (pss_cons (ps_set (i := 6) sc_f_law.nd rfl (by first | exact Or.inl rfl | exact Or.inr rfl) (pe_tup (pa_cons pe_str (pa_cons (pe_ix (ix_g (K := K) rfl) (pv 3) pe_int (fun _ _ => rfl)) pa_nil))))
    (pss_cons (ps_for PassesOwn.never rfl (pi_range1 (by rfl) m_range (pa_cons (pe_f D_f_law_take (hr.mono (by omega)) (by rfl) pass0 (pa_cons (pv 2) (pa_cons pe_int pa_nil))) pa_nil)) (pg_name (i := 5) sc_f_law.nd rfl (by first | exact Or.inl rfl | exact Or.inr rfl)) (pss_one (ps_set (i := 6) sc_f_law.nd rfl (by first | exact Or.inl rfl | exact Or.inr rfl) (pe_tup (pa_cons pe_str (pa_cons (pv 6) (pa_cons (pv 6) pa_nil)))))))
    (pss_cons (ps_for PassesOwn.never rfl (pi_gl (K := K) rfl (pe_op (op_gAdd (K := K) rfl) (pv 4) (pe_lst (pa_cons (pv 6) (pa_cons (pe_f D_f_law_long (hr.mono (by omega)) (by rfl) pass0 (pa_cons (pv 2) (pa_cons (pv 3) (pa_cons (pe_f D_f_law_take (hr.mono (by omega)) (by rfl) pass0 (pa_cons (pv 2) (pa_cons pe_int pa_nil))) pa_nil)))) (pa_cons (pe_tup (pa_cons pe_str (pa_cons pe_int pa_nil))) pa_nil)))))) (pg_name (i := 7) sc_f_law.nd rfl (by first | exact Or.inl rfl | exact Or.inr rfl)) (pss_cons (ps_set (i := 8) sc_f_law.nd rfl (by first | exact Or.inl rfl | exact Or.inr rfl) (pe_tup (pa_cons (pe_f D_f_parts (hr.mono (by omega)) (by rfl) pass0 (pa_cons (pv 7) pa_nil)) (pa_cons (pe_f D_f_deep (hr.mono (by omega)) (by rfl) pass0 (pa_cons (pv 7) pa_nil)) pa_nil))))
    (pss_one (ps_if (PW.pt (pw_or (pt_cmpR (op_gNe (K := K) rfl hr.units) (pv 8) (pe_f D_f_law_walked (hr.mono (by omega)) (by rfl) pass0 (pa_cons (pv 7) pa_nil)) (nomark _)) (pw_or (pt_not (pt_val (pe_f D_f_law_whole (hr.mono (by omega)) (by rfl) pass0 (pa_cons (pe_ix (ix_g (K := K) rfl) (pv 8) pe_int (fun _ _ => rfl)) pa_nil)))) (pw_or1 (pt_not (pt_val (pe_f D_f_law_whole (hr.mono (by omega)) (by rfl) pass0 (pa_cons (pe_ix (ix_g (K := K) rfl) (pv 8) pe_int (fun _ _ => rfl)) pa_nil)))))))) (pss_one (ps_ret pe_bl)) pss_nil))))
    (pss_cons (ps_set (i := 9) sc_f_law.nd rfl (by first | exact Or.inl rfl | exact Or.inr rfl) (pe_tup (pa_cons pe_str (pa_cons pe_int pa_nil))))
    (pss_cons (ps_for PassesOwn.never rfl (pi_enum (by rfl) m_enumerate (pa_cons (pv 4) pa_nil)) (pg_gt (K := K) (n := 2) rfl rfl (pgs_cons (pg_name (i := 10) sc_f_law.nd rfl (by first | exact Or.inl rfl | exact Or.inr rfl)) (pgs_cons (pg_name (i := 7) sc_f_law.nd rfl (by first | exact Or.inl rfl | exact Or.inr rfl)) pgs_nil))) (pss_one (ps_set (i := 9) sc_f_law.nd rfl (by first | exact Or.inl rfl | exact Or.inr rfl) (pe_ix (ix_g (K := K) rfl) (pe_lst (pa_cons (pe_tup (pa_cons pe_str (pa_cons (pv 9) (pa_cons (pv 7) pa_nil)))) (pa_cons (pv 7) pa_nil))) (pe_callTy call_gInt (by rfl) m_int PyProof.Rows.boot_int (pa_cons (pe_cmpR (op_gEq (K := K) rfl hr.units) (pv 10) pe_int (nomark _)) pa_nil)) (fun _ _ => rfl)))))
    (pss_cons (ps_set (i := 11) sc_f_law.nd rfl (by first | exact Or.inl rfl | exact Or.inr rfl) (pe_callTy (call_gList (K := K) rfl) (by rfl) m_list PyProof.Rows.boot_list (pa_cons (pv 4) pa_nil)))
    (pss_one (ps_if (PW.pt (pw_or (pt_cmpR (op_neDD (K := K) rfl hr.big) (pe_f D_f_sum_of (hr.mono (by omega)) (by rfl) pass0 (pa_cons (pv 4) pa_nil)) (pv 9) (nomark _)) (pw_or (pt_cmpR (op_neDD (K := K) rfl hr.big) (pe_f D_f_sum_of (hr.mono (by omega)) (by rfl) pass0 (pa_cons (pe_callTy (call_gTuple (K := K) rfl) (by rfl) m_tuple PyProof.Rows.boot_tuple (pa_cons (pv 4) pa_nil)) pa_nil)) (pv 9) (nomark _)) (pw_or (pt_cmpR (op_neSameL hr.units) (pv 4) (pv 11) (nomark _)) (pw_or1 (pt_cmpR (op_neDD (K := K) rfl hr.big) (pe_fK0 DK_f_sum_of_terms (hr.mono (by omega)) (by rfl) pass0 (pk_cons (pv 4) pk_nil)) (pv 9) (nomark _))))))) (pss_one (ps_ret pe_bl)) pss_nil))))))))))))
    (pss_one (ps_ret pe_bl))), ?_⟩)
  · obtain ⟨_, _, rfl, _⟩ := h
    rfl
  · obtain ⟨a, ns, rfl, hS, hlen, k⟩ := h
    try dsimp only [cxOf, Cx.nox, Cx.wish]
    change (_ : L2.TS) _ [some (.ref a), none, none, none, none, none, none, none, none, none, none, none] _
    refine w_start ?_
    have hl0 : (ns.map V.int).length ≤ 63 := by rw [List.length_map]; exact hlen
    repeat' (tm_at "rs")
    refine loopR (fun i σ' H' => ∃ (x1 x2 x3 x4 x5 x6 x7 x8 x9 x10 x11 : Option V), σ' = [some (.ref a), x1, x2, x3, x4, x5, x6, x7, x8, x9, x10, x11] ∧ SqF K H' a (ns.map V.int)) ?_ ?_ ?_
    · exact ⟨_, _, _, _, _, _, _, _, _, _, _, rfl, hS⟩
    · rintro i σ' H0 hi ⟨x1, x2, x3, x4, x5, x6, x7, x8, x9, x10, x11, rfl, hS2⟩
      repeat' (tm_at "rs")
      rename_i b H1 nb sb bb p ys H2 np gp hyl hnd hyo k2 b2 w H3 w0 w1 k3 b3
      have pb : p ≠ b := ne_newB np bb
      have hyl4 : ys.length = 4 := hyl
      have gp3 := k3 _ _ pb gp
      have hS3 : SqF K H3 a (ns.map V.int) := ((hS2.sm sb).kpB bb k2).kpB b2 k3
      refine lcR (fun D i H' => ∃ (vs : List V) (ts : List Tm), H' D = some (.lst vs) ∧ TmsAt K H' vs ts ∧ (∀ t ∈ ts, TmB ys t ∧ t.prt ≤ 40 ∧ t.dep ≤ 12) ∧ ts.length = i ∧ Kp b H3 H' ∧ BoxAt H' b) ?_ ?_ ?_
      · intro D H' nD sm hD
        exact ⟨[], [], hD, .nil, (fun t h => by cases h), rfl, Kp.of sm, b3.sm sm⟩
      · rintro D j H' nD hj ⟨vs, ts, hD, hT, hts, htl, hk, hb⟩
        have hDb : D ≠ b := ne_newB nD b3
        have hvl := hT.len
        repeat' (tm_at "rs")
        rename_i r H4 r0 r1 k4 b4
        refine call_termQ (n := 13) b4 (k4 _ _ pb (hk _ _ pb gp3)) pb (by omega) (by omega) (by omega) (by omega) (by decide) (fun v t H5 ta tb tp td k5 b5 => ?_)
        have hD5 := k5 _ _ hDb (k4 _ _ hDb hD)
        have hT5 : TmsAt K H5 vs ts := TmsAt.kpB (TmsAt.kpB hT hb k4) b4 k5
        have hz : vs.length ≤ 100 := by omega
        repeat' (tm_at "rs")
        rename_i H6 k6 g6
        have hT6 : TmsAt K H6 (vs ++ [v]) (ts ++ [t]) := TmsAt.kpL (TmsAt.one hT5 ta) hD5 k6
        refine ⟨_, _, g6, hT6, ?_, by rw [List.length_append, htl]; rfl, kp_mut ((hk.trans k4).trans k5) nD k6, b5.kp hDb.symm k6⟩
        intro t' ht'
        rcases List.mem_append.mp ht' with h | h
        · exact hts t' h
        · rw [List.mem_singleton.mp h]
          exact ⟨tb, Nat.le_trans tp (by omega), td⟩
      · rintro D H4 nD ⟨vs, ts, hD, hT, hts, htl, hk, hb⟩
        have hDb : D ≠ b := ne_newB nD b3
        have gp4 := hk _ _ pb gp3
        have hS4 := hS3.kpB b3 hk
        repeat' (tm_at "rs")
        refine w_ixStrs (ys := ys) (sq_of gp4) (by decide) (by omega) (fun s hs => ?_)
        repeat' (tm_at "rs")
        rename_i f0 H5 nf0 sf0 gf0 fn H6 f1 f2 k6 b6
        have gD6 := k6 _ _ hDb (sf0 _ _ hD)
        have bb5 := hb.sm sf0
        have hT6 : TmsAt K H6 vs ts := TmsAt.kpB (TmsAt.sm hT sf0) bb5 k6
        have gp6 := k6 _ _ pb (sf0 _ _ gp4)
        have hS6 := (hS4.sm sf0).kpB bb5 k6
        have hF6 : TmAt K H6 (fullT s 0) (.ref f0) := (show TmAt K H5 (fullT s 0) (.ref f0) from tm_name gf0).kpB bb5 k6
        refine loopR (fun j σ' H' => ∃ (x5 x7 x8 x9 x10 x11 : Option V) (f : V), σ' = [some (.ref a), some (.int (0 + (i : Int))), some (.ref b), some (.ref p), some (.ref D), x5, some f, x7, x8, x9, x10, x11] ∧ TmAt K H' (fullT s j) f ∧ Sm H6 H') ?_ ?_ ?_
        · exact ⟨_, _, _, _, _, _, _, rfl, hF6, Same.refl _⟩
        · rintro j σ' H' hj ⟨x5, x7, x8, x9, x10, x11, f, rfl, hF, sm⟩
          repeat' (tm_at "rs")
          rename_i q H8 nq sq gq
          exact ⟨_, _, _, _, _, _, _, rfl, gq, sm.trans sq⟩
        · rintro σ' H7 ⟨x5, x7, x8, x9, x10, x11, f, rfl, hF, s67⟩
          have gD7 := s67 _ _ gD6
          have hT7 : TmsAt K H7 vs ts := TmsAt.sm hT6 s67
          have gp7 := s67 _ _ gp6
          have b7 := b6.sm s67
          have hS7 := hS6.sm s67
          repeat' (tm_at "rs")
          rename_i u H8 u0 u1 k8 b8
          refine call_long b8 (k8 _ _ pb gp7) pb (by omega) (by omega) (by omega) (by omega) (fun v2 t2 H9 ta2 tb2 tp2 td2 k9 b9 => ?_)
          have gD9 := k9 _ _ hDb (k8 _ _ hDb gD7)
          have hT9 : TmsAt K H9 vs ts := TmsAt.kpB (TmsAt.kpB hT7 b7 k8) b8 k9
          have hF9 : TmAt K H9 (fullT s fn.toNat) f := (hF.kpB b7 k8).kpB b8 k9
          have hS9 := (hS7.kpB b7 k8).kpB b8 k9
          have gp9 := k9 _ _ pb (k8 _ _ pb gp7)
          have hvl := TmsAt.len hT9
          have hw1 : w.toNat ≤ 8 := by omega
          have hz : vs.length ≤ 100 := by omega
          repeat' (tm_at "rs")
          rename_i z HA nz sz gz L HB nL sL gL M HC nM sM gM
          have s9C : Sm H9 HC := sz.trans (sL.trans sM)
          have hTC : TmsAt K HC (vs ++ [f, v2, .ref z]) (ts ++ [fullT s fn.toNat, t2, .num 0]) := paired_app (TmsAt.sm hT9 s9C) (.cons (hF9.sm s9C) (.cons (ta2.sm s9C) (.cons ((tm_num (n := 0) gz).sm (sL.trans sM)) .nil)))
          have hfp := full_prt s fn.toNat
          have hf2 : (2 : Nat) ^ (fn.toNat + 1) ≤ 2 ^ 11 := Nat.pow_le_pow_right (by decide) (by omega)
          have hall : ∀ t ∈ ts ++ [fullT s fn.toNat, t2, .num 0], t.opw ∧ t.wt ≤ 9000 := by
            intro t ht
            rcases List.mem_append.mp ht with h | h
            · obtain ⟨q1, q2, q3⟩ := hts t h
              have := wt_prt t
              exact ⟨q1.opw, by omega⟩
            · simp only [List.mem_cons, List.not_mem_nil, or_false] at h
              rcases h with rfl | rfl | rfl
              · have := wt_prt (fullT s fn.toNat)
                exact ⟨(full_b hs _).opw, by omega⟩
              · have := wt_prt t
                exact ⟨tb2.opw, by omega⟩
              · exact ⟨trivial, by show 1 ≤ 9000; decide⟩
          refine loopL (xs := vs ++ [f, v2, .ref z]) (fun j σ' H' => ∃ (x7 x8 x9 x10 x11 : Option V), σ' = [some (.ref a), some (.int (0 + (i : Int))), some (.ref b), some (.ref p), some (.ref D), x5, some f, x7, x8, x9, x10, x11] ∧ Sm HC H') ?_ ?_ ?_ ?_
          · exact ⟨_, _, _, _, _, rfl, Same.refl _⟩
          · rintro j σ' H' hj ⟨x7, x8, x9, x10, x11, rfl, sm⟩
            exact sq_of (sm _ _ gM)
          · rintro j x σ' H' hj ⟨x7, x8, x9, x10, x11, rfl, sm⟩
            obtain ⟨t, ht, hta⟩ := paired_get hTC hj
            obtain ⟨ho, hw⟩ := hall t (List.mem_of_getElem? ht)
            have hta' := hta.sm sm
            repeat' (tm_at "rs")
            refine call_parts hta' ho hw (fun HD sD => ?_)
            repeat' (tm_at "rs")
            refine call_deep (hta'.sm sD) ho hw (fun HE sE => ?_)
            repeat' (tm_at "rs")
            rename_i T HF nT sT gT
            have sF := sD.trans (sE.trans sT)
            refine call_walked (hta'.sm sF) hw (fun U HG gU sG => ?_)
            have gTG := sG _ _ gT
            refine w_neSame (.tup (st_of gTG) (.cons (.int _) (.cons (.int _) .nil))) (.tup (st_of gU) (.cons (.int _) (.cons (.int _) .nil))) rfl ?_
            repeat' (tm_at "rs")
            exact ⟨_, _, _, _, _, rfl, sm.trans (sF.trans sG)⟩
          · rintro σ' HH ⟨x7, x8, x9, x10, x11, rfl, sCH⟩
            have s9H := s9C.trans sCH
            have gDH := s9H _ _ gD9
            have hTH : TmsAt K HH vs ts := TmsAt.sm hT9 s9H
            have hSH := hS9.sm s9H
            repeat' (tm_at "rs")
            rename_i d0 HI nd sd gd
            have gDI := sd _ _ gDH
            have hTI : TmsAt K HI vs ts := TmsAt.sm hTH sd
            have hSI := hSH.sm sd
            refine loopEn (xs := vs) (fun j σ' H' => ∃ (x7 x8 x10 x11 : Option V) (v : V), σ' = [some (.ref a), some (.int (0 + (i : Int))), some (.ref b), some (.ref p), some (.ref D), x5, some f, x7, x8, some v, x10, x11] ∧ Sm HI H' ∧ TmAt K H' (sumT (ts.take j)) v) ⟨_, _, _, _, _, rfl, Same.refl _, tm_num (n := 0) gd⟩ ?_ ?_ ?_
            · rintro j σ' H' hj ⟨x7, x8, x10, x11, v, rfl, hs, hv⟩
              exact sq_of (hs _ _ gDI)
            · rintro j x T σ' H1 H2 hj hxj ⟨x7, x8, x10, x11, v, rfl, hs, hv⟩ nT sT gT
              obtain ⟨t, hti, ht⟩ := paired_get hTI hxj
              have ht2 := ht.sm (hs.trans sT)
              have hv2 := hv.sm sT
              have htk : ts.take (j + 1) = ts.take j ++ [t] := by rw [List.take_succ, hti]; rfl
              repeat' (tm_at "rs")
              · rename_i q H3 nq sq gq L H4 nL sL gL hL e
                have e : j = 0 := by omega
                subst e
                refine ⟨_, _, _, _, _, rfl, hs.trans (sT.trans (sq.trans sL)), ?_⟩
                rw [htk]
                exact ht2.sm (sq.trans sL)
              · rename_i q H3 nq sq gq L H4 nL sL gL hL e
                refine ⟨_, _, _, _, _, rfl, hs.trans (sT.trans (sq.trans sL)), ?_⟩
                rw [htk, sumT_add (by
                  intro z
                  have h1 := congrArg List.length z
                  have h2 := (List.getElem?_eq_some_iff.mp hti).1
                  rw [List.length_take] at h1
                  have h3 : ([] : List Tm).length = 0 := rfl
                  omega)]
                exact TmAt.sm gq sL
            · rintro σ' HJ ⟨x7, x8, x10, x11, v, rfl, hs, hv⟩
              rw [TmsAt.len hTI, List.take_length] at hv
              have gDJ := hs _ _ gDI
              have hTJ : TmsAt K HJ vs ts := TmsAt.sm hTI hs
              have hSJ := hSI.sm hs
              repeat' (tm_at "rs")
              rename_i kp HK nk sk gk
              have hsl : TmL (sumT ts) := (sumT_b fun t ht => (hts t ht).1).l hyo
              have hsd : (sumT ts).dep ≤ 2900 := by
                have := sumT_dp (D := 12) fun t ht => (hts t ht).2.2
                omega
              have gDK := sk _ _ gDJ
              have hTK : TmsAt K HK vs ts := TmsAt.sm hTJ sk
              have hvK := hv.sm sk
              have hrf : ∀ v ∈ vs, ∃ p, v = V.ref p := fun v hv => by
                obtain ⟨n, hn⟩ := List.mem_iff_getElem?.mp hv
                obtain ⟨t, _, ht⟩ := paired_get hTK hn
                obtain ⟨p, _, e, _⟩ := ht.sq
                exact ⟨p, e⟩
              refine call_sumOf gDK hTK (fun v3 HL s3 hv3 => ?_)
              repeat' (tm_at "rs")
              refine w_neTmD hv3 (hvK.sm s3) hsl hsd ?_
              have gDL := s3 _ _ gDK
              have gkL := s3 _ _ gk
              repeat' (tm_at "rs")
              rename_i A HM nA sA gA
              refine call_sumOfT gA (TmsAt.sm hTK (s3.trans sA)) (fun v4 HN s4 hv4 => ?_)
              repeat' (tm_at "rs")
              have s34 := s3.trans (sA.trans s4)
              refine w_neTmD hv4 (hvK.sm s34) hsl hsd ?_
              have gDN := s34 _ _ gDK
              have gkN := s34 _ _ gk
              repeat' (tm_at "rs")
              refine w_neSameL gDN gkN hrf ?_
              repeat' (tm_at "rs")
              refine call_sumOf gDN (TmsAt.sm hTK s34) (fun v5 HO s5 hv5 => ?_)
              repeat' (tm_at "rs")
              refine w_neTmD hv5 (hvK.sm (s34.trans s5)) hsl hsd ?_
              repeat' (tm_at "rs")
              exact ⟨_, _, _, _, _, _, _, _, _, _, _, rfl, hSJ.sm (sk.trans (s34.trans s5))⟩
    · rintro σ' H' ⟨x1, x2, x3, x4, x5, x6, x7, x8, x9, x10, x11, rfl, hS2⟩
      repeat' (tm_at "rs")
      exact k _
end
theorem all_mk {l : PySem.W.OpenLaw} {w : World} {K : PySem.W.Frag} {h : Heap} {mg : Str → Option Value} {fa : Addr} (X : K.In h) (G : h.Ns mainGlobals mg) (hfa : mg "law" = some (.ref fa))
    {f0 : Addr} {od0 an0 : Option Addr} {sl0 : Array (Option Value)} {oc0 kV0 dc0 pm0 cd0 ct0 : Value}
    {f1 : Addr} {od1 an1 : Option Addr} {sl1 : Array (Option Value)} {oc1 kV1 dc1 pm1 cd1 ct1 : Value}
    {f2 : Addr} {od2 an2 : Option Addr} {sl2 : Array (Option Value)} {oc2 kV2 dc2 pm2 cd2 ct2 : Value}
    {f3 : Addr} {od3 an3 : Option Addr} {sl3 : Array (Option Value)} {oc3 kV3 dc3 pm3 cd3 ct3 : Value}
    {f4 : Addr} {od4 an4 : Option Addr} {sl4 : Array (Option Value)} {oc4 kV4 dc4 pm4 cd4 ct4 : Value}
    {f5 : Addr} {od5 an5 : Option Addr} {sl5 : Array (Option Value)} {oc5 kV5 dc5 pm5 cd5 ct5 : Value}
    {f6 : Addr} {od6 an6 : Option Addr} {sl6 : Array (Option Value)} {oc6 kV6 dc6 pm6 cd6 ct6 : Value}
    {f7 : Addr} {od7 an7 : Option Addr} {sl7 : Array (Option Value)} {oc7 kV7 dc7 pm7 cd7 ct7 : Value}
    {f8 : Addr} {od8 an8 : Option Addr} {sl8 : Array (Option Value)} {oc8 kV8 dc8 pm8 cd8 ct8 : Value}
    {f9 : Addr} {od9 an9 : Option Addr} {sl9 : Array (Option Value)} {oc9 kV9 dc9 pm9 cd9 ct9 : Value}
    {f10 : Addr} {od10 an10 : Option Addr} {sl10 : Array (Option Value)} {oc10 kV10 dc10 pm10 cd10 ct10 : Value}
    {f11 : Addr} {od11 an11 : Option Addr} {sl11 : Array (Option Value)} {oc11 kV11 dc11 pm11 cd11 ct11 : Value}
    {f12 : Addr} {od12 an12 : Option Addr} {sl12 : Array (Option Value)} {oc12 kV12 dc12 pm12 cd12 ct12 : Value}
    {f13 : Addr} {od13 an13 : Option Addr} {sl13 : Array (Option Value)} {oc13 kV13 dc13 pm13 cd13 ct13 : Value}
    (a0 : PySem.W.nsIn K mainGlobals "_law_box" = some (some (.ref f0)))
    (l0 : K.lookup f0 = some ⟨oc0, od0, .func (PySem.W.fnOf "_law_box" "_law_box" (defArgs s_f_law_box) (defBody s_f_law_box) (defScope s_f_law_box) .none kV0 dc0 pm0 an0 cd0 ct0), sl0⟩)
    (c0 : PySem.W.codeIn K cd0 "_law_box" = true)
    (k0 : PySem.W.keepIn K (.ref f0) = true)
    (a1 : PySem.W.nsIn K mainGlobals "_law_take" = some (some (.ref f1)))
    (l1 : K.lookup f1 = some ⟨oc1, od1, .func (PySem.W.fnOf "_law_take" "_law_take" (defArgs s_f_law_take) (defBody s_f_law_take) (defScope s_f_law_take) .none kV1 dc1 pm1 an1 cd1 ct1), sl1⟩)
    (c1 : PySem.W.codeIn K cd1 "_law_take" = true)
    (k1 : PySem.W.keepIn K (.ref f1) = true)
    (a2 : PySem.W.nsIn K mainGlobals "_law_words" = some (some (.ref f2)))
    (l2 : K.lookup f2 = some ⟨oc2, od2, .func (PySem.W.fnOf "_law_words" "_law_words" (defArgs s_f_law_words) (defBody s_f_law_words) (defScope s_f_law_words) .none kV2 dc2 pm2 an2 cd2 ct2), sl2⟩)
    (c2 : PySem.W.codeIn K cd2 "_law_words" = true)
    (k2 : PySem.W.keepIn K (.ref f2) = true)
    (a3 : PySem.W.nsIn K mainGlobals "_law_great" = some (some (.ref f3)))
    (l3 : K.lookup f3 = some ⟨oc3, od3, .func (PySem.W.fnOf "_law_great" "_law_great" (defArgs s_f_law_great) (defBody s_f_law_great) (defScope s_f_law_great) .none kV3 dc3 pm3 an3 cd3 ct3), sl3⟩)
    (c3 : PySem.W.codeIn K cd3 "_law_great" = true)
    (k3 : PySem.W.keepIn K (.ref f3) = true)
    (a4 : PySem.W.nsIn K mainGlobals "_law_term" = some (some (.ref f4)))
    (l4 : K.lookup f4 = some ⟨oc4, od4, .func (PySem.W.fnOf "_law_term" "_law_term" (defArgs s_f_law_term) (defBody s_f_law_term) (defScope s_f_law_term) .none kV4 dc4 pm4 an4 cd4 ct4), sl4⟩)
    (c4 : PySem.W.codeIn K cd4 "_law_term" = true)
    (k4 : PySem.W.keepIn K (.ref f4) = true)
    (a5 : PySem.W.nsIn K mainGlobals "_law_long" = some (some (.ref f5)))
    (l5 : K.lookup f5 = some ⟨oc5, od5, .func (PySem.W.fnOf "_law_long" "_law_long" (defArgs s_f_law_long) (defBody s_f_law_long) (defScope s_f_law_long) .none kV5 dc5 pm5 an5 cd5 ct5), sl5⟩)
    (c5 : PySem.W.codeIn K cd5 "_law_long" = true)
    (k5 : PySem.W.keepIn K (.ref f5) = true)
    (a6 : PySem.W.nsIn K mainGlobals "is_leaf" = some (some (.ref f6)))
    (l6 : K.lookup f6 = some ⟨oc6, od6, .func (PySem.W.fnOf "is_leaf" "is_leaf" (defArgs s_f_is_leaf) (defBody s_f_is_leaf) (defScope s_f_is_leaf) .none kV6 dc6 pm6 an6 cd6 ct6), sl6⟩)
    (c6 : PySem.W.codeIn K cd6 "is_leaf" = true)
    (k6 : PySem.W.keepIn K (.ref f6) = true)
    (a7 : PySem.W.nsIn K mainGlobals "all_in" = some (some (.ref f7)))
    (l7 : K.lookup f7 = some ⟨oc7, od7, .func (PySem.W.fnOf "all_in" "all_in" (defArgs s_f_all_in) (defBody s_f_all_in) (defScope s_f_all_in) .none kV7 dc7 pm7 an7 cd7 ct7), sl7⟩)
    (c7 : PySem.W.codeIn K cd7 "all_in" = true)
    (k7 : PySem.W.keepIn K (.ref f7) = true)
    (a8 : PySem.W.nsIn K mainGlobals "parts" = some (some (.ref f8)))
    (l8 : K.lookup f8 = some ⟨oc8, od8, .func (PySem.W.fnOf "parts" "parts" (defArgs s_f_parts) (defBody s_f_parts) (defScope s_f_parts) .none kV8 dc8 pm8 an8 cd8 ct8), sl8⟩)
    (c8 : PySem.W.codeIn K cd8 "parts" = true)
    (k8 : PySem.W.keepIn K (.ref f8) = true)
    (a9 : PySem.W.nsIn K mainGlobals "deep" = some (some (.ref f9)))
    (l9 : K.lookup f9 = some ⟨oc9, od9, .func (PySem.W.fnOf "deep" "deep" (defArgs s_f_deep) (defBody s_f_deep) (defScope s_f_deep) .none kV9 dc9 pm9 an9 cd9 ct9), sl9⟩)
    (c9 : PySem.W.codeIn K cd9 "deep" = true)
    (k9 : PySem.W.keepIn K (.ref f9) = true)
    (a10 : PySem.W.nsIn K mainGlobals "sum_of" = some (some (.ref f10)))
    (l10 : K.lookup f10 = some ⟨oc10, od10, .func (PySem.W.fnOf "sum_of" "sum_of" (defArgs s_f_sum_of) (defBody s_f_sum_of) (defScope s_f_sum_of) .none kV10 dc10 pm10 an10 cd10 ct10), sl10⟩)
    (c10 : PySem.W.codeIn K cd10 "sum_of" = true)
    (k10 : PySem.W.keepIn K (.ref f10) = true)
    (a11 : PySem.W.nsIn K mainGlobals "_law_walked" = some (some (.ref f11)))
    (l11 : K.lookup f11 = some ⟨oc11, od11, .func (PySem.W.fnOf "_law_walked" "_law_walked" (defArgs s_f_law_walked) (defBody s_f_law_walked) (defScope s_f_law_walked) .none kV11 dc11 pm11 an11 cd11 ct11), sl11⟩)
    (c11 : PySem.W.codeIn K cd11 "_law_walked" = true)
    (k11 : PySem.W.keepIn K (.ref f11) = true)
    (a12 : PySem.W.nsIn K mainGlobals "_law_whole" = some (some (.ref f12)))
    (l12 : K.lookup f12 = some ⟨oc12, od12, .func (PySem.W.fnOf "_law_whole" "_law_whole" (defArgs s_f_law_whole) (defBody s_f_law_whole) (defScope s_f_law_whole) .none kV12 dc12 pm12 an12 cd12 ct12), sl12⟩)
    (c12 : PySem.W.codeIn K cd12 "_law_whole" = true)
    (k12 : PySem.W.keepIn K (.ref f12) = true)
    (a13 : PySem.W.nsIn K mainGlobals "law" = some (some (.ref f13)))
    (l13 : K.lookup f13 = some ⟨oc13, od13, .func (PySem.W.fnOf "law" "law" (defArgs s_f_law) (defBody s_f_law) (defScope s_f_law) .none kV13 dc13 pm13 an13 cd13 ct13), sl13⟩)
    (c13 : PySem.W.codeIn K cd13 "law" = true)
    (k13 : PySem.W.keepIn K (.ref f13) = true)
    (z_len : PySem.W.nsIn K mainGlobals "len" = some none)
    (z_int : PySem.W.nsIn K mainGlobals "int" = some none)
    (z_range : PySem.W.nsIn K mainGlobals "range" = some none)
    (z_str : PySem.W.nsIn K mainGlobals "str" = some none)
    (z_max : PySem.W.nsIn K mainGlobals "max" = some none)
    (z_enumerate : PySem.W.nsIn K mainGlobals "enumerate" = some none)
    (z_isinstance : PySem.W.nsIn K mainGlobals "isinstance" = some none)
    (z_tuple : PySem.W.nsIn K mainGlobals "tuple" = some none)
    (z_bool : PySem.W.nsIn K mainGlobals "bool" = some none)
    (z_list : PySem.W.nsIn K mainGlobals "list" = some none)
    (z_min : PySem.W.nsIn K mainGlobals "min" = some none)
    (z_nd : NoDig K)
    : ∃ fd : FuncData, (∀ (s : Shared) (v : Value), BindsTo s fd ⟨[v], []⟩ [("script", v)]) ∧ ∀ base : Heap, K.In base → base.Ns mainGlobals mg → FnG l.prog w K mg base CX0 18 fa fd ["script"] (sp_f_law K) := by
  have e := hfa.symm.trans (PySem.W.mg_of X G a13)
  cases e
  have m_len : mg "len" = none := PySem.W.mg_none_of X G z_len
  have m_int : mg "int" = none := PySem.W.mg_none_of X G z_int
  have m_range : mg "range" = none := PySem.W.mg_none_of X G z_range
  have m_str : mg "str" = none := PySem.W.mg_none_of X G z_str
  have m_max : mg "max" = none := PySem.W.mg_none_of X G z_max
  have m_enumerate : mg "enumerate" = none := PySem.W.mg_none_of X G z_enumerate
  have m_isinstance : mg "isinstance" = none := PySem.W.mg_none_of X G z_isinstance
  have m_tuple : mg "tuple" = none := PySem.W.mg_none_of X G z_tuple
  have m_bool : mg "bool" = none := PySem.W.mg_none_of X G z_bool
  have m_list : mg "list" = none := PySem.W.mg_none_of X G z_list
  have m_min : mg "min" = none := PySem.W.mg_none_of X G z_min
  have F0 := fun_mk (st := s_f_law_box) l0 c0 k0
  have F1 := fun_mk (st := s_f_law_take) l1 c1 k1
  have F2 := fun_mk (st := s_f_law_words) l2 c2 k2
  have F3 := fun_mk (st := s_f_law_great) l3 c3 k3
  have F4 := fun_mk (st := s_f_law_term) l4 c4 k4
  have F5 := fun_mk (st := s_f_law_long) l5 c5 k5
  have F6 := fun_mk (st := s_f_is_leaf) l6 c6 k6
  have F7 := fun_mk (st := s_f_all_in) l7 c7 k7
  have F8 := fun_mk (st := s_f_parts) l8 c8 k8
  have F9 := fun_mk (st := s_f_deep) l9 c9 k9
  have F10 := fun_mk (st := s_f_sum_of) l10 c10 k10
  have F11 := fun_mk (st := s_f_law_walked) l11 c11 k11
  have F12 := fun_mk (st := s_f_law_whole) l12 c12 k12
  have F13 := fun_mk (st := s_f_law) l13 c13 k13
  refine ⟨PySem.W.fnOf "law" "law" (defArgs s_f_law) (defBody s_f_law) (defScope s_f_law) .none kV13 dc13 pm13 an13 cd13 ct13, fun s v => .of_eq rfl, fun base _ _ => ?_⟩
  have O0 : FnG l.prog w K mg base CX0 1 f0 _ ["script", "k"] (sp_f_law_box K) := ok_f_law_box F0 m_len m_int
  have D_f_law_box : Def l.prog w K mg base CX0 "_law_box" 1 ["script", "k"] (sp_f_law_box K) := ⟨f0, _, PySem.W.mg_of X G a0, O0, k0, F0.binds (ps := ["script", "k"]) fun _ _ _ _ _ _ us hl => match us, hl with | [_, _], _ => rfl⟩
  have O1 : FnG l.prog w K mg base CX0 1 f1 _ ["box", "wide"] (sp_f_law_take K) := ok_f_law_take F1
  have D_f_law_take : Def l.prog w K mg base CX0 "_law_take" 1 ["box", "wide"] (sp_f_law_take K) := ⟨f1, _, PySem.W.mg_of X G a1, O1, k1, F1.binds (ps := ["box", "wide"]) fun _ _ _ _ _ _ us hl => match us, hl with | [_, _], _ => rfl⟩
  have O2 : FnG l.prog w K mg base CX0 2 f2 _ ["box", "many"] (sp_f_law_words K) := ok_f_law_words F2 D_f_law_take m_range m_len
  have D_f_law_words : Def l.prog w K mg base CX0 "_law_words" 2 ["box", "many"] (sp_f_law_words K) := ⟨f2, _, PySem.W.mg_of X G a2, O2, k2, F2.binds (ps := ["box", "many"]) fun _ _ _ _ _ _ us hl => match us, hl with | [_, _], _ => rfl⟩
  have O3 : FnG l.prog w K mg base CX0 2 f3 _ ["box"] (sp_f_law_great K) := ok_f_law_great F3 D_f_law_take m_int m_str z_nd
  have D_f_law_great : Def l.prog w K mg base CX0 "_law_great" 2 ["box"] (sp_f_law_great K) := ⟨f3, _, PySem.W.mg_of X G a3, O3, k3, F3.binds (ps := ["box"]) fun _ _ _ _ _ _ us hl => match us, hl with | [_], _ => rfl⟩
  have R4 : ∀ m : Nat, FnG l.prog w K mg base CX0 (2 + m) f4 (PySem.W.fnOf "_law_term" "_law_term" (defArgs s_f_law_term) (defBody s_f_law_term) (defScope s_f_law_term) .none kV4 dc4 pm4 an4 cd4 ct4) ["box", "names", "room", "down"] (spR_f_law_term K m) := by
    intro m
    induction m with
    | zero => exact FnG.no (fun _ _ _ _ h => h)
    | succ m ih =>
      have D_f_law_term : Def l.prog w K mg base CX0 "_law_term" (2 + m) ["box", "names", "room", "down"] (spR_f_law_term K m) := ⟨f4, _, PySem.W.mg_of X G a4, ih, k4, F4.binds (ps := ["box", "names", "room", "down"]) fun _ _ _ _ _ _ us hl => match us, hl with | [_, _, _, _], _ => rfl⟩
      exact ok_f_law_term F4 D_f_law_take D_f_law_term D_f_law_great m_len
  have O4 : FnG l.prog w K mg base CX0 16 f4 _ ["box", "names", "room", "down"] (sp_f_law_term K) := R4 14
  have D_f_law_term : Def l.prog w K mg base CX0 "_law_term" 17 ["box", "names", "room", "down"] (sp_f_law_term K) := ⟨f4, _, PySem.W.mg_of X G a4, O4.mono (by omega), k4, F4.binds (ps := ["box", "names", "room", "down"]) fun _ _ _ _ _ _ us hl => match us, hl with | [_, _, _, _], _ => rfl⟩
  have O5 : FnG l.prog w K mg base CX0 2 f5 _ ["box", "names", "many"] (sp_f_law_long K) := ok_f_law_long F5 D_f_law_take m_range m_len
  have D_f_law_long : Def l.prog w K mg base CX0 "_law_long" 2 ["box", "names", "many"] (sp_f_law_long K) := ⟨f5, _, PySem.W.mg_of X G a5, O5, k5, F5.binds (ps := ["box", "names", "many"]) fun _ _ _ _ _ _ us hl => match us, hl with | [_, _, _], _ => rfl⟩
  have O6 : FnG l.prog w K mg base CX0 1 f6 _ ["term"] (sp_f_is_leaf K) := ok_f_is_leaf F6
  have D_f_is_leaf : Def l.prog w K mg base CX0 "is_leaf" 1 ["term"] (sp_f_is_leaf K) := ⟨f6, _, PySem.W.mg_of X G a6, O6, k6, F6.binds (ps := ["term"]) fun _ _ _ _ _ _ us hl => match us, hl with | [_], _ => rfl⟩
  have O7 : FnG l.prog w K mg base CX0 2 f7 _ ["term"] (sp_f_all_in K) := ok_f_all_in F7 D_f_is_leaf m_len
  have D_f_all_in : Def l.prog w K mg base CX0 "all_in" 2 ["term"] (sp_f_all_in K) := ⟨f7, _, PySem.W.mg_of X G a7, O7, k7, F7.binds (ps := ["term"]) fun _ _ _ _ _ _ us hl => match us, hl with | [_], _ => rfl⟩
  have O8 : FnG l.prog w K mg base CX0 3 f8 _ ["term"] (sp_f_parts K) := ok_f_parts F8 D_f_all_in m_len
  have D_f_parts : Def l.prog w K mg base CX0 "parts" 3 ["term"] (sp_f_parts K) := ⟨f8, _, PySem.W.mg_of X G a8, O8, k8, F8.binds (ps := ["term"]) fun _ _ _ _ _ _ us hl => match us, hl with | [_], _ => rfl⟩
  have O9 : FnG l.prog w K mg base CX0 3 f9 _ ["term"] (sp_f_deep K) := ok_f_deep F9 D_f_all_in m_max
  have D_f_deep : Def l.prog w K mg base CX0 "deep" 3 ["term"] (sp_f_deep K) := ⟨f9, _, PySem.W.mg_of X G a9, O9, k9, F9.binds (ps := ["term"]) fun _ _ _ _ _ _ us hl => match us, hl with | [_], _ => rfl⟩
  have O10 : FnG l.prog w K mg base CX0 1 f10 _ ["terms"] (sp_f_sum_of K) := ok_f_sum_of F10 m_enumerate m_int
  have D_f_sum_of : Def l.prog w K mg base CX0 "sum_of" 1 ["terms"] (sp_f_sum_of K) := ⟨f10, _, PySem.W.mg_of X G a10, O10, k10, F10.binds (ps := ["terms"]) fun _ _ _ _ _ _ us hl => match us, hl with | [_], _ => rfl⟩
  have DK_f_sum_of_terms : DefK l.prog w K mg base CX0 "sum_of" 1 ["terms"] ["terms"] gk_f_sum_of_terms (sp_f_sum_of K) := ⟨f10, _, _, PySem.W.mg_of X G a10, O10, k10, kb_f_sum_of_terms F10⟩
  have O11 : FnG l.prog w K mg base CX0 1 f11 _ ["term"] (sp_f_law_walked K) := ok_f_law_walked F11 m_len m_max m_isinstance m_tuple
  have D_f_law_walked : Def l.prog w K mg base CX0 "_law_walked" 1 ["term"] (sp_f_law_walked K) := ⟨f11, _, PySem.W.mg_of X G a11, O11, k11, F11.binds (ps := ["term"]) fun _ _ _ _ _ _ us hl => match us, hl with | [_], _ => rfl⟩
  have O12 : FnG l.prog w K mg base CX0 1 f12 _ ["number"] (sp_f_law_whole K) := ok_f_law_whole F12 m_isinstance m_int m_bool
  have D_f_law_whole : Def l.prog w K mg base CX0 "_law_whole" 1 ["number"] (sp_f_law_whole K) := ⟨f12, _, PySem.W.mg_of X G a12, O12, k12, F12.binds (ps := ["number"]) fun _ _ _ _ _ _ us hl => match us, hl with | [_], _ => rfl⟩
  exact ok_f_law F13 D_f_law_box D_f_law_words D_f_law_term D_f_law_take D_f_law_long D_f_parts D_f_deep D_f_sum_of D_f_law_walked D_f_law_whole DK_f_sum_of_terms m_range m_max m_enumerate m_list m_min m_len m_int m_tuple
end Rs
open PySem PySem.W PyProof.Rows
set_option maxHeartbeats 0 in
theorem PySem.Challenge.cw_runsums_k23_parts_depths_sums_holds : PySem.Challenge.rw_runsums_k23_parts_depths_sums.Holds := by
  w_on; o_law; k_head; (case hw => w_witness2)
  k_fill
  refine Rs.walk_g (l := PySem.Challenge.rw_runsums_k23_parts_depths_sums) (n := 63) (k := 18) (x := "script") (CX := fun _ => L2.CX0) (sp := fun w => Rs.sp_f_law _) rfl (by decide) rfl ⟨⟨rfl, by decide, by decide⟩, rfl, by decide⟩ (fun w h Y => PySem.W.kIn_of Y) ?F (fun _ _ a ns hl hO hS => ⟨a, ns, rfl, Rs.SqF.of hO hS, hl, fun _ => rfl⟩) (fun _ _ _ _ _ h => h)
  case F =>
    intro w mg fa h KX G hmg
    refine' Rs.all_mk KX G hmg ?a0 ?l0 ?c0 ?k0 ?a1 ?l1 ?c1 ?k1 ?a2 ?l2 ?c2 ?k2 ?a3 ?l3 ?c3 ?k3 ?a4 ?l4 ?c4 ?k4 ?a5 ?l5 ?c5 ?k5 ?a6 ?l6 ?c6 ?k6 ?a7 ?l7 ?c7 ?k7 ?a8 ?l8 ?c8 ?k8 ?a9 ?l9 ?c9 ?k9 ?a10 ?l10 ?c10 ?k10 ?a11 ?l11 ?c11 ?k11 ?a12 ?l12 ?c12 ?k12 ?a13 ?l13 ?c13 ?k13 ?z_len ?z_int ?z_range ?z_str ?z_max ?z_enumerate ?z_isinstance ?z_tuple ?z_bool ?z_list ?z_min ?z_nd
    (case a0 => k_is)
    (case l0 => k_is)
    (case c0 => k_is)
    (case k0 => k_is)
    (case a1 => k_is)
    (case l1 => k_is)
    (case c1 => k_is)
    (case k1 => k_is)
    (case a2 => k_is)
    (case l2 => k_is)
    (case c2 => k_is)
    (case k2 => k_is)
    (case a3 => k_is)
    (case l3 => k_is)
    (case c3 => k_is)
    (case k3 => k_is)
    (case a4 => k_is)
    (case l4 => k_is)
    (case c4 => k_is)
    (case k4 => k_is)
    (case a5 => k_is)
    (case l5 => k_is)
    (case c5 => k_is)
    (case k5 => k_is)
    (case a6 => k_is)
    (case l6 => k_is)
    (case c6 => k_is)
    (case k6 => k_is)
    (case a7 => k_is)
    (case l7 => k_is)
    (case c7 => k_is)
    (case k7 => k_is)
    (case a8 => k_is)
    (case l8 => k_is)
    (case c8 => k_is)
    (case k8 => k_is)
    (case a9 => k_is)
    (case l9 => k_is)
    (case c9 => k_is)
    (case k9 => k_is)
    (case a10 => k_is)
    (case l10 => k_is)
    (case c10 => k_is)
    (case k10 => k_is)
    (case a11 => k_is)
    (case l11 => k_is)
    (case c11 => k_is)
    (case k11 => k_is)
    (case a12 => k_is)
    (case l12 => k_is)
    (case c12 => k_is)
    (case k12 => k_is)
    (case a13 => k_is)
    (case l13 => k_is)
    (case c13 => k_is)
    (case k13 => k_is)
    (case z_len => k_is)
    (case z_int => k_is)
    (case z_range => k_is)
    (case z_str => k_is)
    (case z_max => k_is)
    (case z_enumerate => k_is)
    (case z_isinstance => k_is)
    (case z_tuple => k_is)
    (case z_bool => k_is)
    (case z_list => k_is)
    (case z_min => k_is)
    (case z_nd => (unfold Rs.NoDig; k_is))
